import PyProof.Rows.All
import HandS.ForMost
import HandS.IsInst
import HandS.HeadHook2
import HandS.Property
import HandS.ExcIs
import HandS.ExcInit
import HandS.ExcField
import KE.KSuper
import Wide.All
import OpenK.AllK
import Wide.FinOn
import KE.KStateDown
import HandS.Exc
import HandS.WordsExc
import HandS.Defaults
import HandS.Head0
import HandS.Head1
import HandS.Head2
import HandS.HeadEnd
import HandS.HeadHook1
import HandS.Deep
import HandS.Dict
import HandS.ExcOwn
import HandS.TryOnly
import HandS.Star
import HandS.Flow
import HandS.Wide
import HandS.SortInts
import HandS.TupAny
import HandS.Conv
import HandS.ExcCtx
import HandS.Style
import KE.KSortedM
import HandS.CallSlots
import HandS.Zip
import HandS.SlotsOwn
import HandS.DictComp
import KE.KUnpackStar
import PyProof.RulesMatch
import PyProof.RulesMatchSeq
import PyProof.Rows.MatchSeqLen
import PyProof.AutoSeq1
import KE.KDictDisplayH
import PyProof.Rows.TupTab
import HandS.MakeKwOnly
import HandS.HotCalls
import HandS.ExcSuper
import KE.KExcSuper
import HandS.ExcInitHot
import HandS.Comp
import KE.KExcIs
import KE.GoesEnum
import HandS.IterVal
import HandS.OwnIter
import HandS.DictSub
import HandS.More
import PySem.Challenge.RW_plainask_k18_tree_strangers
set_option Elab.async false
set_option linter.all false
set_option maxRecDepth 100000
set_option maxHeartbeats 0
namespace Dl
open PySem L2
def ownB (K : PySem.W.Frag) (C : Addr) : Bool := He.eqO (PySem.W.findIn K (.ref C) "__class__") (some (some (.builtin "object.__class__"))) && (He.eqO (PySem.W.specialIn K (.builtin "object.__class__") "__get__") (some (some (.builtin "getset_descriptor.__get__"))) &&
 (decide (PySem.W.takesIn K (.builtin "object.__class__") = some true) && (decide (PySem.W.mroIn K C (.type "object") = some true) && (PySem.W.selfFirst K C && (He.eqO (PySem.W.findIn K (.ref C) "__len__") (some none) && He.eqO (PySem.W.findIn K (.ref C) "__length_hint__") (some none))))))
def obsE (cs : List Str) (fa : List He.Fa) (fn : List He.DefD) (K : PySem.W.Frag) : He.AlD × Bool := (He.obsD fa fn K, cs.all fun n => ownB K (He.ga K n))
def SaysE (cs : List Str) (fa : List He.Fa) (fn : List He.DefD) (K : PySem.W.Frag) : Prop := obsE cs fa fn K = (He.valD fn, true)
theorem SaysE.d {cs : List Str} {fa : List He.Fa} {fn : List He.DefD} {K : PySem.W.Frag} (h : SaysE cs fa fn K) : He.SaysD fa fn K := congrArg Prod.fst h
theorem SaysE.own {cs : List Str} {fa : List He.Fa} {fn : List He.DefD} {K : PySem.W.Frag} (h : SaysE cs fa fn K) {n : Str} (hn : n ∈ cs) : ownB K (He.ga K n) = true := List.all_eq_true.mp (show (cs.all fun n => ownB K (He.ga K n)) = true from congrArg Prod.snd h) n hn
end Dl
namespace Dl
open PySem L2
def gAt (K : PySem.W.Frag) (p : Addr) : Addr := match PySem.W.recIn K p "property" with
 | some (.ref g :: _) => g
 | _ => 0
def fnP (K : PySem.W.Frag) (d : He.DefD) : He.FnW := match K.lookup (gAt K (He.fAd K d.at_)) with
 | some ⟨_, _, .func fd, _⟩ => some (fd.name, fd.qualname, fd.params, fd.body, fd.scope, fd.globals, fd.closure, fd.builtins)
 | _ => none
def prB (K : PySem.W.Frag) (d : He.DefD) : Bool := He.eqO (PySem.W.findIn K (.ref (He.ga K d.at_.1)) (d.at_.2.getD "")) (some (some (.ref (He.fAd K d.at_)))) && (He.eqO (PySem.W.specialIn K (.ref (He.fAd K d.at_)) "__get__") (some (some (.builtin "property.__get__"))) &&
 (decide (PySem.W.takesIn K (.ref (He.fAd K d.at_)) = some true) && ((match PySem.W.recIn K (He.fAd K d.at_) "property" with
  | some (.ref _ :: _) => true
  | _ => false) && (PySem.W.keepIn K (.ref (gAt K (He.fAd K d.at_))) && (match K.lookup (gAt K (He.fAd K d.at_)) with
  | some ⟨_, _, .func fd, _⟩ => PySem.W.codeIn K fd.code d.qual && (He.dflB K fd.defaults (d.dvs K) && He.kwdB K fd.kwdefaults (d.kws K))
  | _ => false)))))
abbrev AlP : Type := (He.AlD × Bool) × List He.FnW
def obsP (cs : List Str) (pr fn : List He.DefD) (fa : List He.Fa) (K : PySem.W.Frag) : AlP := ((He.obsD fa fn K, (cs.all fun n => ownB K (He.ga K n)) && pr.all fun d => prB K d), pr.map fun d => fnP K d)
def valP (pr fn : List He.DefD) : AlP := ((He.valD fn, true), pr.map He.DefD.val)
def SaysP (cs : List Str) (pr fn : List He.DefD) (fa : List He.Fa) (K : PySem.W.Frag) : Prop := obsP cs pr fn fa K = valP pr fn
section
variable {cs : List Str} {pr fn : List He.DefD} {fa : List He.Fa} {K : PySem.W.Frag}
theorem SaysP.d (h : SaysP cs pr fn fa K) : He.SaysD fa fn K := congrArg (fun z : AlP => z.1.1) h
theorem SaysP.more (h : SaysP cs pr fn fa K) : ((cs.all fun n => ownB K (He.ga K n)) && pr.all fun d => prB K d) = true := congrArg (fun z : AlP => z.1.2) h
theorem SaysP.own (h : SaysP cs pr fn fa K) {n : Str} (hn : n ∈ cs) : ownB K (He.ga K n) = true := List.all_eq_true.mp (He.ba h.more).1 n hn
end
end Dl
namespace Dl
open PySem L2
def xtB (K : PySem.W.Frag) (C : Str) (tc : List (Str × Bool)) (tt : List (String × Bool)) : Bool := He.eqO (PySem.W.findIn K (.ref (He.ga K C)) "__getattribute__") (some (some (.builtin "BaseException.__getattribute__"))) && (He.eqO (PySem.W.findIn K (.ref (He.ga K C)) "__getattr__") (some none) &&
 (decide (PySem.W.subIn K (.ref (He.ga K C)) (.type "BaseException") = some true) && (PySem.W.hasDictIn K (He.ga K C) && (He.eqO (PySem.W.findIn K (.ref (He.ga K C)) "__class__") (some (some (.builtin "object.__class__"))) && (He.eqO (PySem.W.specialIn K (.builtin "object.__class__") "__get__") (some (some (.builtin "getset_descriptor.__get__"))) &&
 (decide (PySem.W.takesIn K (.builtin "object.__class__") = some true) && (decide (PySem.W.mroIn K (He.ga K C) (.type "object") = some true) && (decide (PySem.W.exmOne K (.ref (He.ga K C)) (.ref (He.ga K C)) = some true) &&
 ((tc.all fun q => decide (PySem.W.kitOne K (.ref (He.ga K C)) (.ref (He.ga K q.1)) = some q.2)) && (tt.all fun q => decide (PySem.W.kitOne K (.ref (He.ga K C)) (.type q.1) = some q.2)))))))))))
theorem xt_exc {K : PySem.W.Frag} {C : Str} {tc : List (Str × Bool)} {tt : List (String × Bool)} (h : xtB K C tc tt = true) : L2.ExcC K (He.ga K C) := by
 obtain ⟨h1, h⟩ := He.ba h
 obtain ⟨h2, h⟩ := He.ba h
 obtain ⟨h3, h⟩ := He.ba h
 obtain ⟨h4, h⟩ := He.ba h
 obtain ⟨h5, h⟩ := He.ba h
 obtain ⟨h6, h⟩ := He.ba h
 obtain ⟨h7, h⟩ := He.ba h
 obtain ⟨h8, h⟩ := He.ba h
 exact ⟨He.eqO_ok h1, He.eqO_ok h2, of_decide_eq_true h3, h4, He.eqO_ok h5, He.eqO_ok h6, of_decide_eq_true h7, of_decide_eq_true h8⟩
theorem xt_rest {K : PySem.W.Frag} {C : Str} {tc : List (Str × Bool)} {tt : List (String × Bool)} (h : xtB K C tc tt = true) : PySem.W.exmOne K (.ref (He.ga K C)) (.ref (He.ga K C)) = some true ∧ (∀ q ∈ tc, PySem.W.kitOne K (.ref (He.ga K C)) (.ref (He.ga K q.1)) = some q.2) ∧ ∀ q ∈ tt, PySem.W.kitOne K (.ref (He.ga K C)) (.type q.1) = some q.2 := by
 obtain ⟨h1, h⟩ := He.ba h
 obtain ⟨h2, h⟩ := He.ba h
 obtain ⟨h3, h⟩ := He.ba h
 obtain ⟨h4, h⟩ := He.ba h
 obtain ⟨h5, h⟩ := He.ba h
 obtain ⟨h6, h⟩ := He.ba h
 obtain ⟨h7, h⟩ := He.ba h
 obtain ⟨h8, h⟩ := He.ba h
 obtain ⟨h9, h⟩ := He.ba h
 obtain ⟨h10, h11⟩ := He.ba h
 exact ⟨of_decide_eq_true h9, fun q hq => of_decide_eq_true (List.all_eq_true.mp h10 q hq), fun q hq => of_decide_eq_true (List.all_eq_true.mp h11 q hq)⟩
def obsX (cs : List Str) (pr fn : List He.DefD) (fa : List He.Fa) (ex : PySem.W.Frag → Bool) (K : PySem.W.Frag) : AlP × Bool := (obsP cs pr fn fa K, ex K)
def valX (pr fn : List He.DefD) : AlP × Bool := (valP pr fn, true)
def SaysX (cs : List Str) (pr fn : List He.DefD) (fa : List He.Fa) (ex : PySem.W.Frag → Bool) (K : PySem.W.Frag) : Prop := obsX cs pr fn fa ex K = valX pr fn
section
variable {cs : List Str} {pr fn : List He.DefD} {fa : List He.Fa} {ex : PySem.W.Frag → Bool} {K : PySem.W.Frag}
theorem SaysX.p (h : SaysX cs pr fn fa ex K) : SaysP cs pr fn fa K := congrArg Prod.fst h
theorem SaysX.more (h : SaysX cs pr fn fa ex K) : ex K = true := congrArg Prod.snd h
theorem SaysX.d (h : SaysX cs pr fn fa ex K) : He.SaysD fa fn K := h.p.d
theorem SaysX.own (h : SaysX cs pr fn fa ex K) {n : Str} (hn : n ∈ cs) : ownB K (He.ga K n) = true := h.p.own hn
end
end Dl
namespace Dl
open PySem L2
def oexB (K : PySem.W.Frag) (C : Addr) : Bool := (match K.lookup C with
 | some ⟨.type "type", _, .cls cd, sl⟩ => (match cd.mro, sl.toList with
  | .ref C' :: bm, [_, _, _, _, some (.builtin n), _] => C' == C && (n == "ValueError.__new__" && (!cd.hasDel && (cd.hasDict && HandSPX.refsVE bm)))
  | _, _ => false)
 | _ => false) && (He.eqO (PySem.W.findIn K (.ref C) "__setattr__") (some (some (.builtin "object.__setattr__"))) && (decide (PySem.W.subIn K (.ref C) (.type "BaseException") = some true) && (decide (PySem.W.typeIn K (.ref C) = some (.type "type")) && PySem.W.keepIn K (.ref C))))
theorem oexB_ok {K : PySem.W.Frag} {C : Addr} (h : oexB K C = true) : L2.OexC K C := by
 obtain ⟨h1, h⟩ := He.ba h
 obtain ⟨h2, h⟩ := He.ba h
 obtain ⟨h3, h⟩ := He.ba h
 obtain ⟨h4, h5⟩ := He.ba h
 refine ⟨?_, He.eqO_ok h2, of_decide_eq_true h3, of_decide_eq_true h4, h5⟩
 split at h1
 · rename_i dd cd sl ho
   split at h1
   · rename_i C' bm k0 k1 k2 k3 n k5 hm hs
     obtain ⟨q1, h1⟩ := He.ba h1
     obtain ⟨q2, h1⟩ := He.ba h1
     obtain ⟨q3, h1⟩ := He.ba h1
     obtain ⟨q4, q5⟩ := He.ba h1
     have e1 := beq_iff_eq.mp q1
     have e2 := beq_iff_eq.mp q2
     have e3 : cd.hasDel = false := by simpa using q3
     subst e1 e2
     obtain ⟨nm, bs, mro, N, qn, hd, sn, sub, ab, col, del⟩ := cd
     dsimp only at hm e3 q4
     subst hm e3 q4
     have es : sl = #[k0, k1, k2, k3, some (.builtin "ValueError.__new__"), k5] := by rw [← Array.toArray_toList (xs := sl), hs]
     subst es
     exact ⟨nm, qn, N, bs, bm, sn, sub, ab, col, dd, k0, k1, k2, k3, k5, ho, q5⟩
   · cases h1
 · cases h1
abbrev FnX : Type := Option (Str × Str × Arguments × FuncBody × Scope × Addr × List Str × Addr)
def fnXi (K : PySem.W.Frag) (d : He.DefD) : FnX := match K.lookup (He.fAd K d.at_) with
 | some ⟨_, _, .func fd, _⟩ => some (fd.name, fd.qualname, fd.params, fd.body, fd.scope, fd.globals, fd.closure.map (·.1), fd.builtins)
 | _ => none
def xiVal (d : He.DefD) : FnX := some (d.name, d.qual, d.params, .stmts d.body, d.scope, mainGlobals, ["__class__"], builtinsNs)
def xiB (K : PySem.W.Frag) (d : He.DefD) (file fld : Str) : Bool := oexB K (He.ga K d.at_.1) && (He.eqO (PySem.W.findIn K (.ref (He.ga K d.at_.1)) "__init__") (some (some (.ref (He.fAd K d.at_)))) && (decide (PySem.W.typeIn K (.ref (He.fAd K d.at_)) = some (.type "function")) &&
 ((match K.lookup (He.fAd K d.at_) with
  | some ⟨_, _, .func fd, _⟩ => PySem.W.codeIn K fd.code d.qual && ((match fd.defaults with | .none => true | _ => false) && ((match fd.closure with
   | [(_, cc)] => (match K.lookup cc with
    | some ⟨_, _, .cell (some (.ref C')), _⟩ => C' == He.ga K d.at_.1
    | _ => false)
   | _ => false) && (match fd.code with
   | .ref cda => (match K.lookup cda with
    | some ⟨_, _, .fields vs, _⟩ => (match vs.toList with
     | _ :: _ :: .str f _ :: _ => f == file
     | _ => false)
    | _ => false)
   | _ => false)))
  | _ => false) && (decide (PySem.W.mroIn K (He.ga K d.at_.1) (.ref (He.ga K d.at_.1)) = some true) && (He.eqO (PySem.W.nsIn K cStatics "thirdparty.any") (some none) && (He.eqO (PySem.W.ks_superIn K (He.ga K d.at_.1) (He.ga K d.at_.1) "__init__") (some (some (.builtin "ValueError.__init__"))) &&
  (decide (PySem.W.subIn K (.ref (He.ga K d.at_.1)) (.type "ValueError") = some true) && (He.eqO (PySem.W.findIn K (.ref (He.ga K d.at_.1)) fld) (some none) && L2.xfB K (He.ga K d.at_.1)))))))))
def exY (ex : PySem.W.Frag → Bool) (xi : List (He.DefD × Str × Str)) (K : PySem.W.Frag) : Bool := ex K && xi.all fun q => xiB K q.1 q.2.1 q.2.2
abbrev AlY : Type := (AlP × Bool) × List FnX
def obsY (cs : List Str) (pr fn : List He.DefD) (fa : List He.Fa) (ex : PySem.W.Frag → Bool) (xi : List (He.DefD × Str × Str)) (K : PySem.W.Frag) : AlY := (obsX cs pr fn fa (exY ex xi) K, xi.map fun q => fnXi K q.1)
def valY (pr fn : List He.DefD) (xi : List (He.DefD × Str × Str)) : AlY := (valX pr fn, xi.map fun q => xiVal q.1)
def SaysY (cs : List Str) (pr fn : List He.DefD) (fa : List He.Fa) (ex : PySem.W.Frag → Bool) (xi : List (He.DefD × Str × Str)) (K : PySem.W.Frag) : Prop := obsY cs pr fn fa ex xi K = valY pr fn xi
def obsYG (n : Nat) (cs : List Str) (pr fn : List He.DefD) (fa : List He.Fa) (ex : PySem.W.Frag → Bool) (xi : List (He.DefD × Str × Str)) (g : Addr → Option Obj) : AlY := obsY cs pr fn fa ex xi (He.frG g (He.asD g n ++ [cStatics]))
def hookY (n : Nat) (cs : List Str) (pr fn : List He.DefD) (fa : List He.Fa) (ex : PySem.W.Frag → Bool) (xi : List (He.DefD × Str × Str)) : PySem.W.Hook where
 α := AlY
 obs := fun s => obsYG n cs pr fn fa ex xi s.heap.get?
 val := fun _ => valY pr fn xi
 says := fun _ h => ∃ K : PySem.W.Frag, K.In h ∧ SaysY cs pr fn fa ex xi K
 of := fun _ _ e => ⟨_, He.frG_in, e⟩
 keeps := fun _ _ _ ⟨K, hK, c⟩ k => ⟨K, PySem.W.Frag.In.keeps hK k, c⟩
theorem obsYG_eq {n : Nat} {cs : List Str} {pr fn : List He.DefD} {fa : List He.Fa} {ex : PySem.W.Frag → Bool} {xi : List (He.DefD × Str × Str)} {g : Addr → Option Obj} {s : Shared} (h : ∀ a, g a = s.heap.get? a) : obsYG n cs pr fn fa ex xi g = (hookY n cs pr fn fa ex xi).obs s := by
 have e : g = s.heap.get? := funext h
 rw [e] <;> rfl
section
variable {cs : List Str} {pr fn : List He.DefD} {fa : List He.Fa} {ex : PySem.W.Frag → Bool} {xi : List (He.DefD × Str × Str)} {K : PySem.W.Frag}
theorem SaysY.x (h : SaysY cs pr fn fa ex xi K) : SaysX cs pr fn fa (exY ex xi) K := congrArg Prod.fst h
theorem SaysY.p (h : SaysY cs pr fn fa ex xi K) : SaysP cs pr fn fa K := h.x.p
theorem SaysY.d (h : SaysY cs pr fn fa ex xi K) : He.SaysD fa fn K := h.x.d
theorem SaysY.own (h : SaysY cs pr fn fa ex xi K) {n : Str} (hn : n ∈ cs) : ownB K (He.ga K n) = true := h.x.own hn
theorem SaysY.more (h : SaysY cs pr fn fa ex xi K) : ex K = true := (He.ba h.x.more).1
theorem SaysY.ini (h : SaysY cs pr fn fa ex xi K) (i : Nat) {d : He.DefD} {file fld : Str} (e : xi[i]? = some (d, file, fld) := by rfl) : xiB K d file fld = true ∧ fnXi K d = xiVal d := by
 refine ⟨List.all_eq_true.mp (He.ba h.x.more).2 _ (List.mem_of_getElem? e), ?_⟩
 have e1 : xi.map (fun q => fnXi K q.1) = xi.map fun q => xiVal q.1 := congrArg (fun z : AlY => z.2) h
 have e2 : (xi.map fun q => fnXi K q.1)[i]? = (xi.map fun q => xiVal q.1)[i]? := by rw [e1]
 rw [List.getElem?_map, List.getElem?_map, e] at e2
 exact Option.some.inj e2
end
end Dl
namespace My
open PySem PySem.Spec PyProof.Rows L2
def top (i : Nat) : Stmt := PySem.Challenge.pw_plainask_k18_tree_strangers.main.body.getD i (.Pass ⟨0, 0, 0, 0⟩)
abbrev s__wall : Stmt := top 0
def d__wall : He.DefD := ⟨("_wall", none), "_wall", "_wall", defArgs s__wall, defBody s__wall, defScope s__wall, [], []⟩
abbrev s_is_integer : Stmt := top 2
def d_is_integer : He.DefD := ⟨("is_integer", none), "is_integer", "is_integer", defArgs s_is_integer, defBody s_is_integer, defScope s_is_integer, [], []⟩
abbrev s_is_number : Stmt := top 3
def d_is_number : He.DefD := ⟨("is_number", none), "is_number", "is_number", defArgs s_is_number, defBody s_is_number, defScope s_is_number, [], []⟩
abbrev s_ascending : Stmt := top 4
def d_ascending : He.DefD := ⟨("ascending", none), "ascending", "ascending", defArgs s_ascending, defBody s_ascending, defScope s_ascending, [], []⟩
abbrev s_checked : Stmt := top 14
def d_checked : He.DefD := ⟨("checked", none), "checked", "checked", defArgs s_checked, defBody s_checked, defScope s_checked, [], []⟩
abbrev s_checked_cells : Stmt := top 15
def d_checked_cells : He.DefD := ⟨("checked_cells", none), "checked_cells", "checked_cells", defArgs s_checked_cells, defBody s_checked_cells, defScope s_checked_cells, [], []⟩
abbrev s_length_of : Stmt := top 16
def d_length_of : He.DefD := ⟨("length_of", none), "length_of", "length_of", defArgs s_length_of, defBody s_length_of, defScope s_length_of, [], []⟩
abbrev s_branch_of : Stmt := top 17
def d_branch_of : He.DefD := ⟨("branch_of", none), "branch_of", "branch_of", defArgs s_branch_of, defBody s_branch_of, defScope s_branch_of, [], []⟩
abbrev sZcell : Stmt := top 20
def dZcell : He.DefD := ⟨("_law_cell", none), "_law_cell", "_law_cell", defArgs sZcell, defBody sZcell, defScope sZcell, [], []⟩
abbrev sZsource : Stmt := top 21
def dZsource : He.DefD := ⟨("_law_source", none), "_law_source", "_law_source", defArgs sZsource, defBody sZsource, defScope sZsource, [], []⟩
abbrev sZdraw : Stmt := top 22
def dZdraw : He.DefD := ⟨("_law_draw", none), "_law_draw", "_law_draw", defArgs sZdraw, defBody sZdraw, defScope sZdraw, [], []⟩
abbrev sZfull : Stmt := top 23
def dZfull : He.DefD := ⟨("_law_full", none), "_law_full", "_law_full", defArgs sZfull, defBody sZfull, defScope sZfull, [], []⟩
abbrev sZsizes : Stmt := top 24
def dZsizes : He.DefD := ⟨("_law_sizes", none), "_law_sizes", "_law_sizes", defArgs sZsizes, defBody sZsizes, defScope sZsizes, [], []⟩
abbrev sZsplit : Stmt := top 25
def dZsplit : He.DefD := ⟨("_law_split", none), "_law_split", "_law_split", defArgs sZsplit, defBody sZsplit, defScope sZsplit, [], []⟩
abbrev sZtree : Stmt := top 26
def dZtree : He.DefD := ⟨("_law_tree", none), "_law_tree", "_law_tree", defArgs sZtree, defBody sZtree, defScope sZtree, [], []⟩
abbrev sZsame : Stmt := top 27
def dZsame : He.DefD := ⟨("_law_same", none), "_law_same", "_law_same", defArgs sZsame, defBody sZsame, defScope sZsame, [], []⟩
abbrev sZway : Stmt := top 28
def dZway : He.DefD := ⟨("_law_way", none), "_law_way", "_law_way", defArgs sZway, defBody sZway, defScope sZway, [], []⟩
abbrev sZrefused : Stmt := top 29
def dZrefused : He.DefD := ⟨("_law_refused", none), "_law_refused", "_law_refused", defArgs sZrefused, defBody sZrefused, defScope sZrefused, [], []⟩
abbrev s_law : Stmt := top 30
def d_law : He.DefD := ⟨("law", none), "law", "law", defArgs s_law, defBody s_law, defScope s_law, [], []⟩
abbrev s_BadAnswer_DinitD : Stmt := inClass (top 10) 0
def d_BadAnswer_DinitD : He.DefD := ⟨("BadAnswer", some "__init__"), "__init__", "BadAnswer.__init__", defArgs s_BadAnswer_DinitD, defBody s_BadAnswer_DinitD, defScope s_BadAnswer_DinitD, [], []⟩
abbrev s_Tree_DinitD : Stmt := inClass (top 18) 0
def d_Tree_DinitD : He.DefD := ⟨("Tree", some "__init__"), "__init__", "Tree.__init__", defArgs s_Tree_DinitD, defBody s_Tree_DinitD, defScope s_Tree_DinitD, [], []⟩
abbrev s_Tree_DcallD : Stmt := inClass (top 18) 1
def d_Tree_DcallD : He.DefD := ⟨("Tree", some "__call__"), "__call__", "Tree.__call__", defArgs s_Tree_DcallD, defBody s_Tree_DcallD, defScope s_Tree_DcallD, [], []⟩
abbrev s_Tree_ends : Stmt := inClass (top 18) 2
def d_Tree_ends : He.DefD := ⟨("Tree", some "ends"), "ends", "Tree.ends", defArgs s_Tree_ends, defBody s_Tree_ends, defScope s_Tree_ends, [], []⟩
abbrev s_Tree_cut : Stmt := inClass (top 18) 3
def d_Tree_cut : He.DefD := ⟨("Tree", some "cut"), "cut", "Tree.cut", defArgs s_Tree_cut, defBody s_Tree_cut, defScope s_Tree_cut, [], []⟩
def fn : List He.DefD := [d__wall, d_is_integer, d_is_number, d_ascending, d_checked, d_checked_cells, d_length_of, d_branch_of, dZcell, dZsource, dZdraw, dZfull, dZsizes, dZsplit, dZtree, dZsame, dZway, dZrefused, d_law, d_Tree_DinitD, d_Tree_DcallD, d_Tree_ends, d_Tree_cut]
def fa : List He.Fa := [.glo "_wall", .glo "is_integer", .glo "is_number", .glo "ascending", .glo "checked", .glo "checked_cells", .glo "length_of", .glo "branch_of", .glo "_law_cell", .glo "_law_source", .glo "_law_draw", .glo "_law_full", .glo "_law_sizes", .glo "_law_split", .glo "_law_tree", .glo "_law_same", .glo "_law_way", .glo "_law_refused", .glo "law", .glo "AskError", .exc "AskError", .glo "BadRule", .glo "BadBox", .exc "BadBox", .glo "BadTree", .glo "BadAnswer", .glo "BadTurn", .glo "BadRow", .glo "Tree", .cls "Tree", .meth "Tree" "__init__", .mkr "Tree", .meth "Tree" "__call__", .meth "Tree" "ends", .meth "Tree" "cut", .noat "Tree" "length", .noat "Tree" "rows", .free "ValueError", .free "bool", .free "enumerate", .free "int", .free "isinstance", .free "len", .free "list", .free "max", .free "min", .free "range", .free "sorted", .free "str", .free "super", .free "tuple"]
abbrev R : PySem.W.OpenRow := PySem.W.OpenLaw.row PySem.Challenge.rw_plainask_k18_tree_strangers
def exB (K : PySem.W.Frag) : Bool := Dl.xtB K "BadAnswer" [("BadRule", false), ("BadBox", false), ("BadTree", false), ("BadTurn", false), ("BadRow", false), ("AskError", true)] [("ValueError", true)]
def xiL : List (He.DefD × Str × Str) := [(d_BadAnswer_DinitD, PySem.Challenge.pw_plainask_k18_tree_strangers.main.file, "path")]
def ocs : List Str := ["Tree"]
def prs : List He.DefD := []
abbrev hk : PySem.W.Hook := Dl.hookY 6 ocs prs fn fa exB xiL
def ob (s : PySem.W.SharedT) : Dl.AlY := Dl.obsYG 6 ocs prs fn fa exB xiL (HandSHeadRun.getT s)
theorem ob_eq (s : PySem.W.SharedT) : ob s = hk.obs s.abs := Dl.obsYG_eq (HandSHeadRun.getT_eq s)
def loose : List Str := (["_wall", "is_integer", "is_number", "ascending", "AskError", "BadRule", "BadBox", "BadTree", "BadAnswer", "BadTurn", "BadRow", "checked", "checked_cells", "length_of", "branch_of", "Tree", "_law_cell", "_law_source", "_law_draw", "_law_full", "_law_sizes", "_law_split", "_law_tree", "_law_same", "_law_way", "_law_refused"] : List Str)
theorem run (w : World) : HandSHeadRun.RunEq R (PySem.W.view R.prog [30]) hk ob 8000 loose w := by
 intro os
 kernel_rfl
end My
namespace Dn
open PySem
open Sem (wp)
section
variable {prog : Program} {w : World} {K : Type} [DecidableEq K] (knd : KeyKind prog w K)
inductive TuplesAre (h : Heap) : List (List K) → List Value → Prop
 | nil : TuplesAre h [] []
 | cons {k : List K} {b : Addr} {ks : List (List K)} {vs : List Value} : IsTupleKey knd h k b → TuplesAre h ks vs → TuplesAre h (k :: ks) (.ref b :: vs)
def IsTup2 (h : Heap) (ks : List (List K)) (a : Addr) : Prop := ∃ o items n, h.get? a = some o ∧ o.cls = .type "tuple" ∧ o.data = .seq items n ∧ TuplesAre knd h ks items.toList
variable {knd}
theorem TuplesAre.inj {h : Heap} {x y : List (List K)} {vs : List Value} (hx : TuplesAre knd h x vs) (hy : TuplesAre knd h y vs) : x = y := by
 induction hx generalizing y with
 | nil => cases hy; rfl
 | cons h1 _ ih =>
  cases hy with
  | cons h2 t2 => rw [h1.inj h2, ih t2]
theorem IsTup2.typeIs {s : Shared} {ks : List (List K)} {a : Addr} (x : IsTup2 knd s.heap ks a) : s.TypeIs (.ref a) "tuple" := let ⟨o, _, _, ho, hc, _⟩ := x; ⟨o, ho, hc⟩
theorem IsTup2.inj {h : Heap} {a : Addr} {x y : List (List K)} (hx : IsTup2 knd h x a) (hy : IsTup2 knd h y a) : x = y := by
 obtain ⟨o, items, n, ho, _, hd, hi⟩ := hx
 obtain ⟨o', items', n', ho', _, hd', hi'⟩ := hy
 obtain rfl : o = o' := Option.some.inj (ho.symm.trans ho')
 rw [hd] at hd'
 injection hd' with h1 _
 subst h1
 exact hi.inj hi'
theorem TuplesAre.keeps {h h' : Heap} {ks : List (List K)} {vs : List Value} {d : Addr} {o : Obj} {es ep} (x : TuplesAre knd h ks vs) (ho : h.get? d = some o) (hd : o.data = .dict es ep) (hs : Heap.SameBut d h h') : TuplesAre knd h' ks vs := by
 induction x with
 | nil => exact .nil
 | cons h1 _ ih => exact .cons (h1.keeps ho hd hs) ih
theorem IsTup2.keeps {h h' : Heap} {ks : List (List K)} {a d : Addr} {o : Obj} {es ep} (x : IsTup2 knd h ks a) (ho : h.get? d = some o) (hd : o.data = .dict es ep) (hs : Heap.SameBut d h h') : IsTup2 knd h' ks a := by
 obtain ⟨o', items, n, ho', hc, hd', hi⟩ := x
 have hne : a ≠ d := by
  rintro rfl
  obtain rfl : o' = o := Option.some.inj (ho'.symm.trans ho)
  rw [hd] at hd'; exact nomatch hd'
 exact ⟨o', items, n, (hs.2 a hne).trans ho', hc, hd', hi.keeps ho hd hs⟩
variable {A : Around} {E : Value → Shared → Prop} {s : Shared}
end
end Dn
namespace Dn
open PySem L2 PySem.Spec
abbrev K2 := List (List Int)
def hash2 (k : K2) : Int := reduceHash (Builtin.Tuple.tupleHashOf (k.map fun r => reduceHash (Builtin.Tuple.tupleHashOf (r.map hashInt))))
abbrev NT : List (K2 × Addr × V) → List (K2 × Addr × Value) → Prop := Paired fun p q => p.1 = q.1 ∧ p.2.1 = q.2.1 ∧ RelV p.2.2 q.2.2
def ent (x : K2 × Addr × Value) : DictEntry := ⟨hash2 x.1, .ref x.2.1, x.2.2⟩
def ndφ (a : Addr) (kvs : List (K2 × Addr × V)) (h : Heap) : Prop :=
 kvs.length ≤ sizeLine ∧ (a == sysModules) = false ∧ ∃ xs, NT kvs xs ∧ ∃ o es ep, h.get? a = some o ∧ o.ExactDict ∧ o.data = .dict es ep ∧ es.toList = xs.map ent ∧ (xs.map (·.1)).Nodup
def NDo (a : Addr) (kvs : List (K2 × Addr × V)) : HO := .ext (ndφ a kvs)
def ndGet (kvs : List (K2 × Addr × V)) (k : K2) : Option V := (kvs.find? fun p => decide (p.1 = k)).map (·.2.2)
def ndPut (kvs : List (K2 × Addr × V)) (k : K2) (b : Addr) (v : V) : List (K2 × Addr × V) :=
 if (ndGet kvs k).isSome = true then kvs.map (fun p => if p.1 = k then (p.1, p.2.1, v) else p) else kvs ++ [(k, b, v)]
theorem NT.val {kvs : List (K2 × Addr × V)} {xs : List (K2 × Addr × Value)} (r : NT kvs xs) (k : K2) : RelO (ndGet kvs k) ((atKey xs k).map (·.2)) := by
 induction r with
 | nil => exact True.intro
 | @cons p q ps qs h t ih =>
  obtain ⟨h1, _, h2⟩ := h
  by_cases e : p.1 = k
  · have e' : q.1 = k := h1.symm.trans e
    have b : atKey (q :: qs) k = some q.2 := by simp [atKey, List.find?_cons, e']
    have b' : ndGet (p :: ps) k = some p.2.2 := by simp [ndGet, List.find?_cons, e]
    rw [b', b]; exact h2
  · have e' : ¬ q.1 = k := fun z => e (h1.trans z)
    have b : atKey (q :: qs) k = atKey qs k := by simp [atKey, List.find?_cons, e']
    have b' : ndGet (p :: ps) k = ndGet ps k := by simp [ndGet, List.find?_cons, e]
    rw [b', b]; exact ih
theorem NT.repl {kvs : List (K2 × Addr × V)} {xs : List (K2 × Addr × Value)} (r : NT kvs xs) (k : K2) {y : V} {u : Value} (ry : RelV y u) :
  NT (kvs.map fun p => if p.1 = k then (p.1, p.2.1, y) else p) (xs.map (putAt k u)) := by
 induction r with
 | nil => exact .nil
 | @cons p q ps qs h t ih =>
  rw [List.map_cons, List.map_cons]
  refine .cons ?_ ih
  obtain ⟨h1, h2, h3⟩ := h
  unfold putAt
  by_cases e : p.1 = k
  · rw [if_pos e, if_pos (h1.symm.trans e)]; exact ⟨h1, h2, ry⟩
  · rw [if_neg e, if_neg (fun z => e (h1.trans z))]; exact ⟨h1, h2, h3⟩
theorem NT.put {kvs : List (K2 × Addr × V)} {xs : List (K2 × Addr × Value)} (r : NT kvs xs) (k : K2) {b : Addr} {y : V} {u : Value} (ry : RelV y u) : NT (ndPut kvs k b y) (storedH xs k b u) := by
 have e : (ndGet kvs k).isSome = (atKey xs k).isSome := by
  rw [(r.val k).isSome_eq, Option.isSome_map]
 unfold ndPut storedH
 rw [e]
 by_cases q : (atKey xs k).isSome = true
 · rw [if_pos q, if_pos q]; exact r.repl k ry
 · rw [if_neg q, if_neg q]; exact Paired.snoc r ⟨rfl, rfl, ry⟩
section
variable {P : Program} {w : World} {H : Hp} {h : Heap} {a : Addr} {kvs : List (K2 × Addr × V)}
theorem ndφ.ext {h' : Heap} (x : ndφ a kvs h) (st : ∀ o, h.get? a = some o → h'.get? a = some o) : ndφ a kvs h' := by
 obtain ⟨z1, z2, xs, r, o, es, ep, h1, h2⟩ := x
 exact ⟨z1, z2, xs, r, o, es, ep, st o h1, h2⟩
def Keys (P : Program) (w : World) (h : Heap) (kvs : List (K2 × Addr × V)) : Prop := ∀ p ∈ kvs, IsTup2 (PySem.intKind P w) h p.1 p.2.1
end
section
variable {X : Cx} {pins : List (Addr × Obj)} {σ : St} {H : Hp} {s : Shared} {a b : Addr} {k : K2} {kvs : List (K2 × Addr × V)} {v : V} {r : Value} {A : Around} {E : Value → Shared → Prop}
end
end Dn
namespace Dl
open PySem L2
inductive D where
 | non | bl (b : Bool) | int (i : Int) | str (x : Str)
 | lst (xs : List D) | tup (xs : List D)
 | obj (c : Str) (ns : List Str) (ds : List D)
 | dic (ks vs : List D)
 | scr (ns : List Int)
 | ty (n : String) | cls (c : Str)
 | loc (a : Addr)
 | ndi (ks vs : List D)
 | xob (a dx : Addr) (ns : List Str) (ds : List D)
 deriving Inhabited
def keyD (k : Dn.K2) : D := .tup (k.map fun r => .tup (r.map .int))
section
variable (K : PySem.W.Frag) (G : Hp)
mutual
def Rp : D → V → Prop
 | .non, v => v = .non
 | .bl b, v => v = .bl b
 | .int i, v => v = .int i
 | .str x, v => v = .str x
 | .lst ds, v => ∃ a xs, v = .ref a ∧ G a = some (.lst xs) ∧ RpL ds xs
 | .tup ds, v => ∃ a xs, v = .ref a ∧ SqT K G a xs ∧ RpL ds xs
 | .obj c ns ds, v => ∃ a dx xs, v = .ref a ∧ G a = some (.ins (He.ga K c) dx (ns.zip xs)) ∧ G dx = some (.own a) ∧ ns.length = ds.length ∧ RpL ds xs
 | .dic ks vs, v => ∃ a kvs, v = .ref a ∧ G a = some (.dK kvs) ∧ RpL ks (kvs.map fun p => kV p.1) ∧ RpL vs (kvs.map fun p => p.2)
 | .scr ns, v => ∃ a, v = .ref a ∧ SqL K G a (ns.map V.int)
 | .ty n, v => v = .ty n
 | .cls c, v => v = .ref (He.ga K c)
 | .loc a, v => v = .ref a
 | .xob a dx ns ds, v => v = .ref a ∧ ∃ xs, G dx = some (.xd (ns.zip xs)) ∧ ns.length = ds.length ∧ RpL ds xs
 | .ndi ks vs, v => ∃ a kvs, v = .ref a ∧ G a = some (Dn.NDo a kvs) ∧ ks = kvs.map (fun p => keyD p.1) ∧ RpL ks (kvs.map fun p => V.ref p.2.1) ∧ RpL vs (kvs.map fun p => p.2.2)
def RpL : List D → List V → Prop
 | [], xs => xs = []
 | d :: ds, xs => ∃ x r, xs = x :: r ∧ Rp d x ∧ RpL ds r
end
end
theorem Same.seqt {K : PySem.W.Frag} {H H' : Hp} {a : Addr} {xs : List V} (e : Same H H') (h : SqT K H a xs) : SqT K H' a xs := by
 rcases h with (h | ⟨o, h⟩) | h
 · exact .inl (.inl (e _ _ h))
 · exact .inl (.inr ⟨o, e _ _ h⟩)
 · exact .inr h
section
variable {K : PySem.W.Frag} {G G' : Hp}
mutual
theorem Rp.mono (e : Same G G') : ∀ (d : D) (v : V), Rp K G d v → Rp K G' d v
 | .non, _, h => h
 | .bl _, _, h => h
 | .int _, _, h => h
 | .str _, _, h => h
 | .lst ds, _, ⟨a, xs, h1, h2, h3⟩ => ⟨a, xs, h1, e _ _ h2, RpL.mono e ds xs h3⟩
 | .tup ds, _, ⟨a, xs, h1, h2, h3⟩ => ⟨a, xs, h1, Same.seqt e h2, RpL.mono e ds xs h3⟩
 | .obj c ns ds, _, ⟨a, dx, xs, h1, h2, h3, hl, h4⟩ => ⟨a, dx, xs, h1, e _ _ h2, e _ _ h3, hl, RpL.mono e ds xs h4⟩
 | .dic ks vs, _, ⟨a, kvs, h1, h2, h3, h4⟩ => ⟨a, kvs, h1, e _ _ h2, RpL.mono e ks _ h3, RpL.mono e vs _ h4⟩
 | .scr ns, _, ⟨a, h1, h2⟩ => ⟨a, h1, e.seq h2⟩
 | .ty _, _, h => h
 | .cls _, _, h => h
 | .loc _, _, h => h
 | .xob _ _ ns ds, _, ⟨h1, xs, h2, h3, h4⟩ => ⟨h1, xs, e _ _ h2, h3, RpL.mono e ds xs h4⟩
 | .ndi ks vs, _, ⟨a, kvs, h1, h2, h0, h3, h4⟩ => ⟨a, kvs, h1, e _ _ h2, h0, RpL.mono e ks _ h3, RpL.mono e vs _ h4⟩
theorem RpL.mono (e : Same G G') : ∀ (ds : List D) (xs : List V), RpL K G ds xs → RpL K G' ds xs
 | [], _, h => h
 | d :: ds, _, ⟨x, r, h1, h2, h3⟩ => ⟨x, r, h1, Rp.mono e d x h2, RpL.mono e ds r h3⟩
end
theorem RpL.length : ∀ {ds : List D} {xs : List V}, RpL K G ds xs → xs.length = ds.length
 | [], _, h => by cases h; rfl
 | d :: ds, _, ⟨x, r, h1, h2, h3⟩ => by rw [h1, List.length_cons, List.length_cons, h3.length]
theorem RpL.get : ∀ {ds : List D} {xs : List V} {i : Nat} {d : D}, RpL K G ds xs → ds[i]? = some d → ∃ x, xs[i]? = some x ∧ Rp K G d x
 | [], _, _, _, _, e => by cases e
 | d :: ds, _, 0, _, ⟨x, r, h1, h2, h3⟩, e => by
  rw [List.getElem?_cons_zero] at e; cases e
  exact ⟨x, by rw [h1]; rfl, h2⟩
 | d :: ds, _, i + 1, _, ⟨x, r, h1, h2, h3⟩, e => by
  rw [List.getElem?_cons_succ] at e
  obtain ⟨y, q1, q2⟩ := h3.get e
  exact ⟨y, by rw [h1, List.getElem?_cons_succ]; exact q1, q2⟩
theorem RpL.get' : ∀ {ds : List D} {xs : List V} {i : Nat} {x : V}, RpL K G ds xs → xs[i]? = some x → ∃ d, ds[i]? = some d ∧ Rp K G d x
 | [], _, _, _, h, e => by cases h; cases e
 | d :: ds, _, 0, _, ⟨x, r, h1, h2, h3⟩, e => by
  rw [h1, List.getElem?_cons_zero] at e; cases e
  exact ⟨d, rfl, h2⟩
 | d :: ds, _, i + 1, _, ⟨x, r, h1, h2, h3⟩, e => by
  rw [h1, List.getElem?_cons_succ] at e
  obtain ⟨y, q1, q2⟩ := h3.get' e
  exact ⟨y, by rw [List.getElem?_cons_succ]; exact q1, q2⟩
theorem RpL.append : ∀ {ds es : List D} {xs ys : List V}, RpL K G ds xs → RpL K G es ys → RpL K G (ds ++ es) (xs ++ ys)
 | [], _, _, _, h, k => by cases h; exact k
 | d :: ds, _, _, _, ⟨x, r, h1, h2, h3⟩, k => ⟨x, r ++ _, by rw [h1]; rfl, h2, h3.append k⟩
theorem RpL.one {d : D} {v : V} (h : Rp K G d v) : RpL K G [d] [v] := ⟨v, [], rfl, h, rfl⟩
theorem RpL.set : ∀ {ds : List D} {xs : List V} {d : D} {v : V} (i : Nat), RpL K G ds xs → Rp K G d v → RpL K G (ds.set i d) (xs.set i v)
 | [], _, _, _, _, h, _ => by cases h; rfl
 | d :: ds, _, _, _, 0, ⟨x, r, h1, h2, h3⟩, k => by subst h1; exact ⟨_, r, rfl, k, h3⟩
 | d :: ds, _, _, _, i + 1, ⟨x, r, h1, h2, h3⟩, k => by subst h1; exact ⟨x, r.set i _, rfl, h2, h3.set i k⟩
theorem RpL.drop : ∀ {ds : List D} {xs : List V} (i : Nat), RpL K G ds xs → RpL K G (ds.drop i) (xs.drop i)
 | [], _, i, h => by cases h; simp [RpL]
 | d :: ds, _, 0, h => h
 | d :: ds, _, i + 1, ⟨x, r, h1, h2, h3⟩ => by subst h1; exact h3.drop i
theorem RpL.take : ∀ {ds : List D} {xs : List V} (i : Nat), RpL K G ds xs → RpL K G (ds.take i) (xs.take i)
 | [], _, i, h => by cases h; simp [RpL]
 | d :: ds, _, 0, h => by simp [RpL]
 | d :: ds, _, i + 1, ⟨x, r, h1, h2, h3⟩ => by subst h1; exact ⟨x, r.take i, rfl, h2, h3.take i⟩
theorem RpL.ints : ∀ {ns : List Int}, RpL K G (ns.map D.int) (ns.map V.int)
 | [] => rfl
 | n :: ns => ⟨.int n, ns.map V.int, rfl, rfl, RpL.ints⟩
theorem RpL.of_ints : ∀ {ns : List Int} {xs : List V}, RpL K G (ns.map D.int) xs → xs = ns.map V.int
 | [], _, h => h
 | n :: ns, _, ⟨x, r, h1, h2, h3⟩ => by
  have h4 : x = .int n := h2
  rw [h1, h4, h3.of_ints]; rfl
end
inductive S where
 | no | val (d : D) | own (d : D)
 deriving Inhabited
structure Cn where
 F : Hp
 s0 : L2.St
def Ow (K : PySem.W.Frag) (F G H : Hp) (a : Addr) : D → Prop
 | .lst ds => ∃ xs, H a = some (.lst xs) ∧ RpL K G ds xs
 | .obj c ns ds => ∃ dx xs, H a = some (.ins (He.ga K c) dx (ns.zip xs)) ∧ H dx = some (.own a) ∧ G dx = none ∧ F dx = none ∧ dx ≠ a ∧ ns.length = ds.length ∧ RpL K G ds xs
 | .dic ks vs => ∃ kvs, H a = some (.dK kvs) ∧ RpL K G ks (kvs.map fun p => kV p.1) ∧ RpL K G vs (kvs.map fun p => p.2)
 | .ndi ks vs => ∃ kvs, H a = some (Dn.NDo a kvs) ∧ ks = kvs.map (fun p => keyD p.1) ∧ RpL K G ks (kvs.map fun p => V.ref p.2.1) ∧ RpL K G vs (kvs.map fun p => p.2.2)
 | _ => False
structure Rst (K : PySem.W.Frag) (c : Cn) (G H : Hp) (σ : L2.St) (ρ : List S) : Prop where
 fh : Same c.F H
 gh : Same G H
 fg : ∀ a o, c.F a = some o → G a = none
 len : ρ.length = σ.length
 val : ∀ (i : Nat) (d : D), ρ[i]? = some (.val d) → ∃ v, σ[i]? = some (some v) ∧ Rp K G d v
 own : ∀ (i : Nat) (d : D), ρ[i]? = some (.own d) → ∃ a, σ[i]? = some (some (.ref a)) ∧ G a = none ∧ c.F a = none ∧ Ow K c.F G H a d
 ne : ∀ (i j : Nat) (d e : D) (a : Addr), ρ[i]? = some (.own d) → ρ[j]? = some (.own e) → σ[i]? = some (some (.ref a)) → σ[j]? = some (some (.ref a)) → i = j
 par : ∀ (i : Nat) (d : D), ρ[i]? = some (.own d) → i < c.s0.length → σ[i]? = c.s0[i]?
inductive Rv where
 | val (d : D) | own (d : D) | ali (i : Nat)
 deriving Inhabited
def RpR (K : PySem.W.Frag) (c : Cn) (G H : Hp) (σ : L2.St) (ρ : List S) (v : V) : Rv → Prop
 | .val d => Rp K G d v
 | .own d => ∃ a, v = .ref a ∧ G a = none ∧ c.F a = none ∧ Ow K c.F G H a d ∧ ∀ (i : Nat) (e : D), ρ[i]? = some (.own e) → σ[i]? ≠ some (some (.ref a))
 | .ali i => σ[i]? = some (some v)
theorem Ow.gmono {K : PySem.W.Frag} {F G G' H : Hp} {a : Addr} {d : D} (e : Same G G') (hd : ∀ b, H b = some (.own a) → G b = none → G' b = none) (h : Ow K F G H a d) : Ow K F G' H a d := by
 cases d with
 | lst ds => obtain ⟨xs, h1, h2⟩ := h; exact ⟨xs, h1, h2.mono e⟩
 | obj c ns ds => obtain ⟨dx, xs, h1, h2, h3, h4, h5, hl, h6⟩ := h; exact ⟨dx, xs, h1, h2, hd dx h2 h3, h4, h5, hl, h6.mono e⟩
 | dic ks vs => obtain ⟨kvs, h1, h2, h3⟩ := h; exact ⟨kvs, h1, h2.mono e, h3.mono e⟩
 | ndi ks vs => obtain ⟨kvs, h1, h0, h2, h3⟩ := h; exact ⟨kvs, h1, h0, h2.mono e, h3.mono e⟩
 | _ => exact h.elim
theorem Ow.at {K : PySem.W.Frag} {F G H : Hp} {a : Addr} {d : D} (h : Ow K F G H a d) : ∃ o, H a = some o ∧ (∀ b, o ≠ .own b) := by
 cases d with
 | lst ds => obtain ⟨xs, h1, h2⟩ := h; exact ⟨_, h1, fun b z => nomatch z⟩
 | obj c ns ds => obtain ⟨dx, xs, h1, _⟩ := h; exact ⟨_, h1, fun b z => nomatch z⟩
 | dic ks vs => obtain ⟨kvs, h1, _⟩ := h; exact ⟨_, h1, fun b z => nomatch z⟩
 | ndi ks vs => obtain ⟨kvs, h1, _⟩ := h; exact ⟨_, h1, fun b z => nomatch z⟩
 | _ => exact h.elim
theorem frz {K : PySem.W.Frag} {F G H : Hp} {a : Addr} {d : D} (gh : Same G H) (fg : ∀ b o, F b = some o → G b = none) (ga : G a = none) (fa : F a = none) (h : Ow K F G H a d) :
  ∃ G', Same G G' ∧ Same G' H ∧ (∀ b o, F b = some o → G' b = none) ∧ Rp K G' d (.ref a) ∧ ∀ b, G' b ≠ G b → b = a ∨ H b = some (.own a) := by
 cases d with
 | lst ds =>
  obtain ⟨xs, h1, h2⟩ := h
  have s1 : Same G (upd G a (.lst xs)) := fun b o e => by rw [upd_ne (ne_of_none e ga)]; exact e
  refine ⟨upd G a (.lst xs), s1, fun b o e => ?_, fun b o e => ?_, ⟨a, xs, rfl, upd_same, h2.mono s1⟩, fun b hb => ?_⟩
  · by_cases q : b = a
    · subst q; rw [upd_same] at e; cases e; exact h1
    · rw [upd_ne q] at e; exact gh _ _ e
  · rw [upd_ne (ne_of_none e fa)]; exact fg _ _ e
  · by_cases q : b = a
    · exact .inl q
    · exact absurd (upd_ne q) hb
 | dic ks vs =>
  obtain ⟨kvs, h1, h2, h3⟩ := h
  have s1 : Same G (upd G a (.dK kvs)) := fun b o e => by rw [upd_ne (ne_of_none e ga)]; exact e
  refine ⟨upd G a (.dK kvs), s1, fun b o e => ?_, fun b o e => ?_, ⟨a, kvs, rfl, upd_same, h2.mono s1, h3.mono s1⟩, fun b hb => ?_⟩
  · by_cases q : b = a
    · subst q; rw [upd_same] at e; cases e; exact h1
    · rw [upd_ne q] at e; exact gh _ _ e
  · rw [upd_ne (ne_of_none e fa)]; exact fg _ _ e
  · by_cases q : b = a
    · exact .inl q
    · exact absurd (upd_ne q) hb
 | ndi ks vs =>
  obtain ⟨kvs, h1, h0, h2, h3⟩ := h
  have s1 : Same G (upd G a (Dn.NDo a kvs)) := fun b o e => by rw [upd_ne (ne_of_none e ga)]; exact e
  refine ⟨upd G a (Dn.NDo a kvs), s1, fun b o e => ?_, fun b o e => ?_, ⟨a, kvs, rfl, upd_same, h0, h2.mono s1, h3.mono s1⟩, fun b hb => ?_⟩
  · by_cases q : b = a
    · subst q; rw [upd_same] at e; cases e; exact h1
    · rw [upd_ne q] at e; exact gh _ _ e
  · rw [upd_ne (ne_of_none e fa)]; exact fg _ _ e
  · by_cases q : b = a
    · exact .inl q
    · exact absurd (upd_ne q) hb
 | obj c ns ds =>
  obtain ⟨dx, xs, h1, h2, h3, h4, h5, hl, h6⟩ := h
  have s1 : Same G (upd (upd G dx (.own a)) a (.ins (He.ga K c) dx (ns.zip xs))) := fun b o e => by rw [upd_ne (ne_of_none e ga), upd_ne (ne_of_none e h3)]; exact e
  refine ⟨_, s1, fun b o e => ?_, fun b o e => ?_, ⟨a, dx, xs, rfl, upd_same, by rw [upd_ne h5, upd_same], hl, h6.mono s1⟩, fun b hb => ?_⟩
  · by_cases q : b = a
    · subst q; rw [upd_same] at e; cases e; exact h1
    · rw [upd_ne q] at e
      by_cases q2 : b = dx
      · subst q2; rw [upd_same] at e; cases e; exact h2
      · rw [upd_ne q2] at e; exact gh _ _ e
  · rw [upd_ne (ne_of_none e fa), upd_ne (ne_of_none e h4)]; exact fg _ _ e
  · by_cases q : b = a
    · exact .inl q
    · by_cases q2 : b = dx
      · subst q2; exact .inr h2
      · rw [upd_ne q, upd_ne q2] at hb; exact absurd rfl hb
 | _ => exact h.elim
section
variable {K : PySem.W.Frag} {c : Cn} {G G' H H' : Hp} {σ : L2.St} {ρ : List S} {v : V} {d : D} {i : Nat}
theorem Rst.ground (R : Rst K c G H σ ρ) (s1 : Same G G') (s2 : Same G' H) (fg : ∀ b o, c.F b = some o → G' b = none)
  (ok : ∀ (i : Nat) (d : D) (a : Addr), ρ[i]? = some (.own d) → σ[i]? = some (some (.ref a)) → G' a = none ∧ ∀ b, H b = some (.own a) → G b = none → G' b = none) : Rst K c G' H σ ρ where
 fh := R.fh
 gh := s2
 fg := fg
 len := R.len
 val := fun i d e => let ⟨v, h1, h2⟩ := R.val i d e; ⟨v, h1, h2.mono s1⟩
 own := fun i d e => let ⟨a, h1, h2, h3, h4⟩ := R.own i d e; ⟨a, h1, (ok i d a e h1).1, h3, h4.gmono s1 (ok i d a e h1).2⟩
 ne := R.ne
 par := R.par
theorem Rst.set_val (R : Rst K c G H σ ρ) (i : Nat) (h : Rp K G d v) : Rst K c G H (σ.set i (some v)) (ρ.set i (.val d)) where
 fh := R.fh
 gh := R.gh
 fg := R.fg
 len := by rw [List.length_set, List.length_set, R.len]
 val := fun j e q => by
  by_cases hj : j = i
  · subst hj
    have hl : j < ρ.length := by
     by_cases hl : j < ρ.length
     · exact hl
     · rw [List.getElem?_eq_none (by simpa using hl)] at q; cases q
    rw [List.getElem?_set_self hl] at q
    cases q
    exact ⟨v, by rw [List.getElem?_set_self (R.len ▸ hl)], h⟩
  · rw [List.getElem?_set_ne (Ne.symm hj)] at q ⊢
    exact R.val j e q
 own := fun j e q => by
  by_cases hj : j = i
  · subst hj
    by_cases hl : j < ρ.length
    · rw [List.getElem?_set_self hl] at q; cases q
    · rw [List.getElem?_eq_none (by simpa using hl)] at q; cases q
  · rw [List.getElem?_set_ne (Ne.symm hj)] at q ⊢
    exact R.own j e q
 ne := fun j k e f a q1 q2 r1 r2 => by
  have nj : ∀ (j : Nat) (e : D), (ρ.set i (.val d))[j]? = some (.own e) → j ≠ i := fun j e q hj => by
   subst hj
   by_cases hl : j < ρ.length
   · rw [List.getElem?_set_self hl] at q; cases q
   · rw [List.getElem?_eq_none (by simpa using hl)] at q; cases q
  have hj := nj j e q1
  have hk := nj k f q2
  rw [List.getElem?_set_ne (Ne.symm hj)] at q1 r1
  rw [List.getElem?_set_ne (Ne.symm hk)] at q2 r2
  exact R.ne j k e f a q1 q2 r1 r2
 par := fun j e q hl => by
  have hj : j ≠ i := fun hj => by
   subst hj
   by_cases hl : j < ρ.length
   · rw [List.getElem?_set_self hl] at q; cases q
   · rw [List.getElem?_eq_none (by simpa using hl)] at q; cases q
  rw [List.getElem?_set_ne (Ne.symm hj)] at q ⊢
  exact R.par j e q hl
theorem Rst.freeze (R : Rst K c G H σ ρ) (h : ρ[i]? = some (.own d)) : ∃ v G', σ[i]? = some (some v) ∧ Same G G' ∧ Rst K c G' H σ (ρ.set i (.val d)) ∧ Rp K G' d v := by
 obtain ⟨a, h1, h2, h3, h4⟩ := R.own i d h
 obtain ⟨G', s1, s2, fg, r, dif⟩ := frz R.gh R.fg h2 h3 h4
 have hl : i < ρ.length := (List.getElem?_eq_some_iff.mp h).1
 have nj : ∀ (j : Nat) (e : D), (ρ.set i (.val d))[j]? = some (.own e) → j ≠ i ∧ ρ[j]? = some (.own e) := fun j e q => by
  by_cases hj : j = i
  · subst hj; rw [List.getElem?_set_self hl] at q; cases q
  · rw [List.getElem?_set_ne (Ne.symm hj)] at q; exact ⟨hj, q⟩
 have ok : ∀ (j : Nat) (e : D) (b : Addr), j ≠ i → ρ[j]? = some (.own e) → σ[j]? = some (some (.ref b)) → G' b = none ∧ ∀ b', H b' = some (.own b) → G b' = none → G' b' = none := fun j e b hj q r1 => by
  have hb : b ≠ a := fun z => by subst z; exact hj (R.ne j i e d b q h r1 h1)
  obtain ⟨b', k1, k2, k3, k4⟩ := R.own j e q
  rw [r1] at k1; cases k1
  obtain ⟨o, ho, hno⟩ := k4.at
  have same : ∀ x, G x = none → x ≠ a → H x ≠ some (.own a) → G' x = none := fun x gx xa xo => by
   by_cases z : G' x = G x
   · rw [z, gx]
   · rcases dif x z with z | z
     · exact absurd z xa
     · exact absurd z xo
  refine ⟨same b k2 hb (fun z => hno a (by rw [ho] at z; exact Option.some.inj z)), fun x hx gx => same x gx (fun z => ?_) (fun z => ?_)⟩
  · subst z
    obtain ⟨o', ho', hno'⟩ := h4.at
    rw [ho'] at hx; exact hno' b (Option.some.inj hx)
  · rw [z] at hx; cases hx; exact hb rfl
 refine ⟨.ref a, G', h1, s1, ⟨R.fh, s2, fg, by rw [List.length_set, R.len], fun j e q => ?_, fun j e q => ?_, fun j k e f b q1 q2 r1 r2 => ?_, fun j e q hl => ?_⟩, r⟩
 · by_cases hj : j = i
   · subst hj; rw [List.getElem?_set_self hl] at q; cases q; exact ⟨.ref a, h1, r⟩
   · rw [List.getElem?_set_ne (Ne.symm hj)] at q
     obtain ⟨v, k1, k2⟩ := R.val j e q
     exact ⟨v, k1, k2.mono s1⟩
 · obtain ⟨hj, q'⟩ := nj j e q
   obtain ⟨b, k1, k2, k3, k4⟩ := R.own j e q'
   obtain ⟨z1, z2⟩ := ok j e b hj q' k1
   exact ⟨b, k1, z1, k3, k4.gmono s1 z2⟩
 · exact R.ne j k e f b (nj j e q1).2 (nj k f q2).2 r1 r2
 · exact R.par j e (nj j e q).2 hl
theorem Rst.freeze_new (R : Rst K c G H σ ρ) (h : RpR K c G H σ ρ v (.own d)) : ∃ G', Same G G' ∧ Rst K c G' H σ ρ ∧ Rp K G' d v := by
 obtain ⟨a, rfl, h2, h3, h4, h5⟩ := h
 obtain ⟨G', s1, s2, fg, r, dif⟩ := frz R.gh R.fg h2 h3 h4
 refine ⟨G', s1, R.ground s1 s2 fg fun j e b q r1 => ?_, r⟩
 have hb : b ≠ a := fun z => by subst z; exact h5 j e q r1
 obtain ⟨b', k1, k2, k3, k4⟩ := R.own j e q
 rw [r1] at k1; cases k1
 obtain ⟨o, ho, hno⟩ := k4.at
 have same : ∀ x, G x = none → x ≠ a → H x ≠ some (.own a) → G' x = none := fun x gx xa xo => by
  by_cases z : G' x = G x
  · rw [z, gx]
  · rcases dif x z with z | z
    · exact absurd z xa
    · exact absurd z xo
 refine ⟨same b k2 hb (fun z => hno a (by rw [ho] at z; exact Option.some.inj z)), fun x hx gx => same x gx (fun z => ?_) (fun z => ?_)⟩
 · subst z
   obtain ⟨o', ho', hno'⟩ := h4.at
   rw [ho'] at hx; exact hno' b (Option.some.inj hx)
 · rw [z] at hx; cases hx; exact hb rfl
end
end Dl
namespace Dl
open PySem L2
structure Xn where
 c : Str
 ns : List Str := []
 ds : List D := []
inductive Ot (α : Type) where
 | ok (a : α) (ρ : List S) | ex (e : Xn) (ρ : List S)
def M (α : Type) : Type := List S → Option (Ot α)
def M.pure {α : Type} (a : α) : M α := fun ρ => some (.ok a ρ)
def M.bind {α β : Type} (f : M α) (k : α → M β) : M β := fun ρ => match f ρ with
 | some (.ok a ρ') => k a ρ'
 | some (.ex e ρ') => some (.ex e ρ')
 | none => none
instance : Monad M where
 pure := M.pure
 bind := M.bind
def M.fail {α : Type} : M α := fun _ => none
def ofO {α : Type} (o : Option α) : M α := fun ρ => o.map fun a => .ok a ρ
theorem bind_eq {α β : Type} (f : M α) (k : α → M β) (ρ : List S) : (f >>= k) ρ = (match f ρ with
 | some (.ok a ρ') => k a ρ'
 | some (.ex e ρ') => some (.ex e ρ')
 | none => none) := rfl
def wpM {α : Type} (o : Option (Ot α)) (OK : α → List S → Prop) (EX : Xn → List S → Prop) : Prop := match o with
 | some (.ok a ρ) => OK a ρ
 | some (.ex e ρ) => EX e ρ
 | none => False
theorem wpM_bind {α β : Type} {f : M α} {k : α → M β} {ρ : List S} {OK : β → List S → Prop} {EX : Xn → List S → Prop} (h : wpM ((f >>= k) ρ) OK EX) : wpM (f ρ) (fun a ρ' => wpM (k a ρ') OK EX) EX := by
 rw [bind_eq] at h
 revert h
 cases f ρ with
 | none => exact fun h => h
 | some o => cases o <;> exact fun h => h
theorem wpM_mono {α : Type} {o : Option (Ot α)} {OK OK' : α → List S → Prop} {EX EX' : Xn → List S → Prop} (h : wpM o OK EX) (h1 : ∀ a ρ, OK a ρ → OK' a ρ) (h2 : ∀ e ρ, EX e ρ → EX' e ρ) : wpM o OK' EX' := by
 revert h
 cases o with
 | none => exact fun h => h
 | some o => cases o with
  | ok a ρ => exact h1 a ρ
  | ex e ρ => exact h2 e ρ
def XAt (K : PySem.W.Frag) (G H : Hp) (e : Xn) (cls : Value) (d : Option Addr) : Prop :=
 cls = .ref (He.ga K e.c) ∧ match e.ns with
 | [] => d = none
 | ns => ∃ dx fvs, d = some dx ∧ G dx = some (.xd fvs) ∧ ∃ xs, fvs = ns.zip xs ∧ RpL K G e.ds xs ∧ ns.length = e.ds.length
abbrev WX0 : WX := fun _ _ _ _ => False
def EXk (K : PySem.W.Frag) (c : Cn) (W : WX) (σ : L2.St) (G : Hp) : Xn → List S → Prop := fun e ρ' =>
 ∀ cls d G' H', Rst K c G' H' σ ρ' → Same G G' → XAt K G' H' e cls d → W cls d σ H'
theorem EXk.mono {K : PySem.W.Frag} {c : Cn} {W : WX} {σ : L2.St} {G G1 : Hp} {e : Xn} {ρ : List S} (s : Same G G1) (h : EXk K c W σ G e ρ) : EXk K c W σ G1 e ρ :=
 fun cls d G' H' R s' x => h cls d G' H' R (s.trans s') x
def tg {α β : Type} (K : PySem.W.Frag) (W : WX) (rep : Cn → Hp → Hp → L2.St → List S → β → α → Prop) (f : M α) : L2.St → Hp → (β → Hp → Prop) → Prop := fun σ H Q =>
 ∃ c G ρ, Rst K c G H σ ρ ∧ wpM (f ρ) (fun a ρ' => ∀ b G' H', Rst K c G' H' σ ρ' → Same G G' → rep c G' H' σ ρ' b a → Q b H') (EXk K c W σ G)
abbrev repE (K : PySem.W.Frag) : Cn → Hp → Hp → L2.St → List S → V → Rv → Prop := fun c G H σ ρ v r => RpR K c G H σ ρ v r
abbrev repT : Cn → Hp → Hp → L2.St → List S → Bool → Bool → Prop := fun _ _ _ _ _ b a => b = a
def RpRs (K : PySem.W.Frag) (G : Hp) (σ : L2.St) : List V → List Rv → Prop
 | [], [] => True
 | v :: vs, .val d :: rs => Rp K G d v ∧ RpRs K G σ vs rs
 | v :: vs, .ali i :: rs => σ[i]? = some (some v) ∧ RpRs K G σ vs rs
 | _, _ => False
abbrev repA (K : PySem.W.Frag) : Cn → Hp → Hp → L2.St → List S → List V → List Rv → Prop := fun _ G _ σ _ vs rs => RpRs K G σ vs rs
abbrev tD (K : PySem.W.Frag) (W : WX) (f : M Rv) : TE := tg K W (repE K) f
abbrev tDT (K : PySem.W.Frag) (W : WX) (f : M Bool) : TT := tg K W repT f
abbrev tDA (K : PySem.W.Frag) (W : WX) (f : M (List Rv)) : TA := tg K W (repA K) f
theorem tg_step {α β γ : Type} {K : PySem.W.Frag} {W : WX} {rep : Cn → Hp → Hp → L2.St → List S → β → α → Prop} {c : Cn} {G0 G H : Hp} {σ : L2.St} {ρ : List S} {f : M α} {k : α → M γ} {OK : γ → List S → Prop} {Q : β → Hp → Prop}
  (R : Rst K c G H σ ρ) (s0 : Same G0 G) (h : wpM ((f >>= k) ρ) OK (EXk K c W σ G0))
  (next : ∀ a ρ1 b G1 H1, Rst K c G1 H1 σ ρ1 → Same G0 G1 → Same G G1 → rep c G1 H1 σ ρ1 b a → wpM (k a ρ1) OK (EXk K c W σ G0) → Q b H1) : tg K W rep f σ H Q :=
 ⟨c, G, ρ, R, wpM_mono (wpM_bind h) (fun a ρ1 hk b G1 H1 R1 s1 r => next a ρ1 b G1 H1 R1 (s0.trans s1) s1 r hk) fun _ _ x => x.mono s0⟩
structure DE (X : Cx) (W : WX) (e : Expr) (f : M Rv) : Prop where
 pe : PE X e (tD X.K W f)
structure DT (X : Cx) (W : WX) (e : Expr) (f : M Bool) : Prop where
 pt : PT X e (tDT X.K W f)
structure DW (X : Cx) (W : WX) (e : Expr) (f : M Bool) : Prop where
 pw : PW X e (tDT X.K W f)
structure DA (X : Cx) (W : WX) (es : List Expr) (f : M (List Rv)) : Prop where
 pa : PA X es (tDA X.K W f)
section
variable {X : Cx} {e : Expr} {es : List Expr} {t t' : TE}
theorem _root_.L2.PE.weak (h : PE X e t) (w : ∀ σ H Q, t' σ H Q → t σ H Q) : PE X e t' := ⟨fun pins s σ H Q I q => h.run pins s σ H Q I (w σ H Q q)⟩
theorem _root_.L2.PT.weak {t t' : TT} (h : PT X e t) (w : ∀ σ H Q, t' σ H Q → t σ H Q) : PT X e t' := ⟨fun pins s σ H Q I q => h.run pins s σ H Q I (w σ H Q q)⟩
theorem _root_.L2.PW.weak {t t' : TT} (h : PW X e t) (w : ∀ σ H Q, t' σ H Q → t σ H Q) : PW X e t' := ⟨fun wh pins s σ H Q I q => h.run wh pins s σ H Q I (w σ H Q q)⟩
theorem _root_.L2.PA.weak {t t' : TA} (h : PA X es t) (w : ∀ σ H Q, t' σ H Q → t σ H Q) : PA X es t' := ⟨fun pos pins s σ H Q I q => h.run pos pins s σ H Q I (w σ H Q q)⟩
theorem _root_.L2.PS.weak {st : Stmt} {t t' : TS} (h : PS X st t) (w : ∀ D σ H, t' D σ H → t D σ H) : PS X st t' := ⟨fun pins s σ H D I q => h.run pins s σ H D I (w D σ H q)⟩
theorem _root_.L2.PSs.weak {st : List Stmt} {t t' : TS} (h : PSs X st t) (w : ∀ D σ H, t' D σ H → t D σ H) : PSs X st t' := ⟨fun pins s σ H D I q => h.run pins s σ H D I (w D σ H q)⟩
end
def Rh (K : PySem.W.Frag) (c : Cn) (G H : Hp) (d : D) (v : V) : Prop := Rp K G d v ∨ ∃ a, v = .ref a ∧ G a = none ∧ c.F a = none ∧ Ow K c.F G H a d
def peek (r : Rv) : M D := fun ρ => match r with
 | .val d => some (.ok d ρ)
 | .own d => some (.ok d ρ)
 | .ali i => match ρ[i]? with
  | some (.val d) => some (.ok d ρ)
  | some (.own d) => some (.ok d ρ)
  | _ => none
def toV (r : Rv) : M D := fun ρ => match r with
 | .val d => some (.ok d ρ)
 | .own d => some (.ok d ρ)
 | .ali i => match ρ[i]? with
  | some (.val d) => some (.ok d ρ)
  | some (.own d) => some (.ok d (ρ.set i (.val d)))
  | _ => none
def settle : Rv → Rv
 | .own d => .val d
 | r => r
def peeks : List Rv → M (List D)
 | [] => pure []
 | r :: rs => do
  let d ← peek r
  let ds ← peeks rs
  pure (d :: ds)
def toVs : List Rv → M (List D)
 | [] => pure []
 | r :: rs => do
  let d ← toV r
  let ds ← toVs rs
  pure (d :: ds)
section
variable {K : PySem.W.Frag} {c : Cn} {G G' H H' : Hp} {σ : L2.St} {ρ ρ' : List S} {v : V} {d : D} {r : Rv} {rs : List Rv} {vs : List V}
theorem peek_ok (R : Rst K c G H σ ρ) (h : RpR K c G H σ ρ v r) (p : peek r ρ = some (.ok d ρ')) : ρ' = ρ ∧ Rh K c G H d v := by
 cases r with
 | val e => cases p; exact ⟨rfl, .inl h⟩
 | own e => cases p; obtain ⟨a, h1, h2, h3, h4, _⟩ := h; exact ⟨rfl, .inr ⟨a, h1, h2, h3, h4⟩⟩
 | ali i =>
  have h1 : σ[i]? = some (some v) := h
  unfold peek at p
  dsimp only at p
  cases q : ρ[i]? with
  | none => rw [q] at p; cases p
  | some s =>
   rw [q] at p
   cases s with
   | no => cases p
   | val e =>
    cases p
    obtain ⟨w, k1, k2⟩ := R.val i _ q
    rw [h1] at k1; cases k1
    exact ⟨rfl, .inl k2⟩
   | own e =>
    cases p
    obtain ⟨a, k1, k2, k3, k4⟩ := R.own i _ q
    rw [h1] at k1; cases k1
    exact ⟨rfl, .inr ⟨a, rfl, k2, k3, k4⟩⟩
theorem peek_wp {OK : D → List S → Prop} {EX : Xn → List S → Prop} (R : Rst K c G H σ ρ) (h : RpR K c G H σ ρ v r) (w : wpM (peek r ρ) OK EX) : ∃ d, Rh K c G H d v ∧ OK d ρ := by
 cases p : peek r ρ with
 | none => rw [p] at w; exact w.elim
 | some o =>
  rw [p] at w
  cases o with
  | ok d ρ' => obtain ⟨e, k⟩ := peek_ok R h p; subst e; exact ⟨d, k, w⟩
  | ex e ρ' =>
   exfalso
   cases r with
   | val e => cases p
   | own e => cases p
   | ali i =>
    unfold peek at p
    dsimp only at p
    cases q : ρ[i]? with
    | none => rw [q] at p; cases p
    | some s => rw [q] at p; cases s <;> cases p
theorem settle_ok (R : Rst K c G H σ ρ) (h : RpR K c G H σ ρ v r) : ∃ G', Same G G' ∧ Rst K c G' H σ ρ ∧ RpRs K G' σ [v] [settle r] := by
 cases r with
 | val e => exact ⟨G, Same.refl G, R, h, trivial⟩
 | own e => obtain ⟨G', s, R', q⟩ := R.freeze_new h; exact ⟨G', s, R', q, trivial⟩
 | ali i => exact ⟨G, Same.refl G, R, h, trivial⟩
theorem toV_wp {OK : D → List S → Prop} {EX : Xn → List S → Prop} (R : Rst K c G H σ ρ) (h : RpR K c G H σ ρ v r) (w : wpM (toV r ρ) OK EX) : ∃ d G' ρ', Same G G' ∧ Rst K c G' H σ ρ' ∧ Rp K G' d v ∧ OK d ρ' := by
 cases r with
 | val e => exact ⟨e, G, ρ, Same.refl G, R, h, w⟩
 | own e => obtain ⟨G', s, R', q⟩ := R.freeze_new h; exact ⟨e, G', ρ, s, R', q, w⟩
 | ali i =>
  have h1 : σ[i]? = some (some v) := h
  unfold toV at w
  dsimp only at w
  cases q : ρ[i]? with
  | none => rw [q] at w; exact w.elim
  | some s =>
   rw [q] at w
   cases s with
   | no => exact w.elim
   | val e =>
    obtain ⟨x, k1, k2⟩ := R.val i _ q
    rw [h1] at k1; cases k1
    exact ⟨e, G, ρ, Same.refl G, R, k2, w⟩
   | own e =>
    obtain ⟨x, G', k1, s, R', k2⟩ := R.freeze q
    rw [h1] at k1; cases k1
    exact ⟨e, G', _, s, R', k2, w⟩
theorem RpRs.mono (s : Same G G') : ∀ {vs : List V} {rs : List Rv}, RpRs K G σ vs rs → RpRs K G' σ vs rs
 | [], [], _ => trivial
 | v :: vs, .val d :: rs, ⟨h1, h2⟩ => ⟨h1.mono s, h2.mono s⟩
 | v :: vs, .ali i :: rs, ⟨h1, h2⟩ => ⟨h1, h2.mono s⟩
 | [], _ :: _, h => h.elim
 | _ :: _, [], h => h.elim
 | _ :: _, .own _ :: _, h => h.elim
theorem RpRs.one (h : RpRs K G σ [v] [r]) : ∀ {c : Cn} {H : Hp} {ρ : List S}, RpR K c G H σ ρ v r := by
 intro c H ρ
 cases r with
 | val d => exact h.1
 | own d => exact h.elim
 | ali i => exact h.1
theorem RpRs.cons (h : RpRs K G σ [v] [r]) (k : RpRs K G σ vs rs) : RpRs K G σ (v :: vs) (r :: rs) := by
 cases r with
 | val d => exact ⟨h.1, k⟩
 | own d => exact h.elim
 | ali i => exact ⟨h.1, k⟩
theorem RpRs.head (h : RpRs K G σ (v :: vs) (r :: rs)) : RpRs K G σ [v] [r] ∧ RpRs K G σ vs rs := by
 cases r with
 | val d => exact ⟨⟨h.1, trivial⟩, h.2⟩
 | own d => exact h.elim
 | ali i => exact ⟨⟨h.1, trivial⟩, h.2⟩
theorem RpRs.nil_of : ∀ {vs : List V}, RpRs K G σ vs [] → vs = []
 | [], _ => rfl
 | _ :: _, h => h.elim
theorem RpRs.cons_of : ∀ {vs : List V}, RpRs K G σ vs (r :: rs) → ∃ v vs', vs = v :: vs' ∧ RpRs K G σ [v] [r] ∧ RpRs K G σ vs' rs
 | [], h => h.elim
 | v :: vs, h => ⟨v, vs, rfl, h.head⟩
def RhL (K : PySem.W.Frag) (c : Cn) (G H : Hp) : List D → List V → Prop
 | [], vs => vs = []
 | d :: ds, vs => ∃ v r, vs = v :: r ∧ Rh K c G H d v ∧ RhL K c G H ds r
theorem peeks_wp : ∀ {rs : List Rv} {vs : List V} {OK : List D → List S → Prop} {EX : Xn → List S → Prop}, Rst K c G H σ ρ → RpRs K G σ vs rs → wpM (peeks rs ρ) OK EX → ∃ ds, RhL K c G H ds vs ∧ OK ds ρ
 | [], vs, OK, EX, R, h, w => by
  have e := h.nil_of
  subst e
  exact ⟨[], rfl, w⟩
 | r :: rs, vs, OK, EX, R, h, w => by
  obtain ⟨v, vs', rfl, h1, h2⟩ := h.cons_of
  obtain ⟨d, k1, w1⟩ := peek_wp R h1.one (wpM_bind w)
  obtain ⟨ds, k2, w2⟩ := peeks_wp R h2 (wpM_bind w1)
  exact ⟨d :: ds, ⟨v, vs', rfl, k1, k2⟩, w2⟩
theorem toVs_wp : ∀ {rs : List Rv} {vs : List V} {G : Hp} {ρ : List S} {OK : List D → List S → Prop} {EX : Xn → List S → Prop}, Rst K c G H σ ρ → RpRs K G σ vs rs → wpM (toVs rs ρ) OK EX →
  ∃ ds G' ρ', Same G G' ∧ Rst K c G' H σ ρ' ∧ RpL K G' ds vs ∧ OK ds ρ'
 | [], vs, G, ρ, OK, EX, R, h, w => by
  have e := h.nil_of
  subst e
  exact ⟨[], G, ρ, Same.refl G, R, rfl, w⟩
 | r :: rs, vs, G, ρ, OK, EX, R, h, w => by
  obtain ⟨v, vs', rfl, h1, h2⟩ := h.cons_of
  obtain ⟨d, G1, ρ1, s1, R1, k1, w1⟩ := toV_wp R h1.one (wpM_bind w)
  obtain ⟨ds, G2, ρ2, s2, R2, k2, w2⟩ := toVs_wp R1 (h2.mono s1) (wpM_bind w1)
  exact ⟨d :: ds, G2, ρ2, s1.trans s2, R2, ⟨v, vs', rfl, k1.mono s2, k2⟩, w2⟩
end
def eVar (i : Nat) : M Rv := fun ρ => match ρ[i]? with
 | some (.val d) => some (.ok (.val d) ρ)
 | some (.own _) => some (.ok (.ali i) ρ)
 | _ => none
def eC (d : D) : M Rv := pure (.val d)
section
variable {X : Cx} {W : WX} {a b e : Expr} {es : List Expr} {fa fb : M Rv} {pos : Pos}
theorem de_var (i : Nat) {x : Str} (h : PE X (.Name x pos) (tVar i)) : DE X W (.Name x pos) (eVar i) := ⟨h.weak fun σ H Q ⟨c, G, ρ, R, w⟩ => by
 unfold eVar at w
 cases q : ρ[i]? with
 | none => rw [q] at w; exact w.elim
 | some s =>
  rw [q] at w
  cases s with
  | no => exact w.elim
  | val d =>
   obtain ⟨v, k1, k2⟩ := R.val i d q
   exact ⟨v, k1, w v G H R (Same.refl G) k2⟩
  | own d =>
   obtain ⟨a, k1, k2, k3, k4⟩ := R.own i d q
   exact ⟨.ref a, k1, w (.ref a) G H R (Same.refl G) k1⟩⟩
theorem de_v (i : Nat) {x : Str} (hN : X.N[i]? = some x := by rfl) (hv : Vis X.env.scope x := by first | exact Or.inl rfl | exact Or.inr (Or.inl rfl) | exact Or.inr (Or.inr rfl)) (hd : (x == ("__debug__" : Str)) = false := by decide)
  (hcd : (x == ("__classdict__" : Str)) = false := by decide) : DE X W (.Name x pos) (eVar i) := de_var i (pe_var hN hv hd hcd)
theorem de_cv {d : D} {v : V} (h : PE X e (tC v)) (r : ∀ G, Rp X.K G d v) : DE X W e (eC d) := ⟨h.weak fun σ H Q ⟨c, G, ρ, R, w⟩ => w v G H R (Same.refl G) (r G)⟩
theorem de_int {i : Int} {j} : DE X W (.Constant (.int i) j pos) (eC (.int i)) := de_cv pe_int fun _ => rfl
theorem de_bl {b : Bool} {j} : DE X W (.Constant (.bool b) j pos) (eC (.bl b)) := de_cv pe_bl fun _ => rfl
theorem de_non {j} : DE X W (.Constant .none j pos) (eC .non) := de_cv pe_non fun _ => rfl
theorem de_str {x : Str} {j} : DE X W (.Constant (.str x) j pos) (eC (.str x)) := de_cv pe_str fun _ => rfl
def aNil : M (List Rv) := pure []
def aCons (f : M Rv) (g : M (List Rv)) : M (List Rv) := do
 let r ← f
 let rs ← g
 pure (settle r :: rs)
theorem da_nil : DA X W [] aNil := ⟨pa_nil.weak fun σ H Q ⟨c, G, ρ, R, w⟩ => w [] G H R (Same.refl G) trivial⟩
theorem da_cons {f : M Rv} {g : M (List Rv)} (he : DE X W e f) (hr : DA X W es g) (hs : starEach (e :: es) X.env = (false, eval e X.env) :: starEach es X.env := by rfl) : DA X W (e :: es) (aCons f g) :=
 ⟨(pa_cons he.pe hr.pa hs).weak fun σ H Q ⟨c, G, ρ, R, w⟩ => tg_step R (Same.refl G) w fun r ρ1 v G1 H1 R1 s1 _ k w1 => by
  obtain ⟨G1', s1', R1', k'⟩ := settle_ok R1 k
  exact tg_step R1' (s1.trans s1') w1 fun rs ρ2 vs G2 H2 R2 s2 s12 k2 w2 => w2 (v :: vs) G2 H2 R2 s2 (RpRs.cons (k'.mono s12) k2)⟩
end
end Dl
namespace Dl
open PySem L2
section
variable {K : PySem.W.Frag} {c : Cn} {G G' H H' : Hp} {σ : L2.St} {ρ : List S} {p : Addr} {o : HO}
theorem Rst.laid (R : Rst K c G H σ ρ) (hp : H p = none) : Rst K c G (upd H p o) σ ρ where
 fh := fun b u e => by rw [upd_ne (ne_of_none (R.fh _ _ e) hp)]; exact R.fh _ _ e
 gh := fun b u e => by rw [upd_ne (ne_of_none (R.gh _ _ e) hp)]; exact R.gh _ _ e
 fg := R.fg
 len := R.len
 val := R.val
 own := fun i d e => by
  obtain ⟨a, h1, h2, h3, h4⟩ := R.own i d e
  refine ⟨a, h1, h2, h3, ?_⟩
  have k : ∀ b u, H b = some u → upd H p o b = some u := fun b u q => by rw [upd_ne (ne_of_none q hp)]; exact q
  cases d with
  | lst ds => obtain ⟨xs, q1, q2⟩ := h4; exact ⟨xs, k _ _ q1, q2⟩
  | obj c ns ds => obtain ⟨dx, xs, q1, q2, q3, q4, q5, q6, q7⟩ := h4; exact ⟨dx, xs, k _ _ q1, k _ _ q2, q3, q4, q5, q6, q7⟩
  | dic ks vs => obtain ⟨kvs, q1, q2, q3⟩ := h4; exact ⟨kvs, k _ _ q1, q2, q3⟩
  | ndi ks vs => obtain ⟨kvs, q1, q2⟩ := h4; exact ⟨kvs, k _ _ q1, q2⟩
  | _ => exact h4.elim
 ne := R.ne
 par := R.par
theorem Rst.g_none (R : Rst K c G H σ ρ) (hp : H p = none) : G p = none := R.gh.free hp
theorem Rst.f_none (R : Rst K c G H σ ρ) (hp : H p = none) : c.F p = none := R.fh.free hp
theorem Rst.not_slot (R : Rst K c G H σ ρ) (hp : H p = none) : ∀ (i : Nat) (e : D), ρ[i]? = some (.own e) → σ[i]? ≠ some (some (.ref p)) := fun i e q z => by
 obtain ⟨a, h1, _, _, h4⟩ := R.own i e q
 rw [z] at h1; cases h1
 obtain ⟨o, ho, _⟩ := h4.at
 rw [hp] at ho; cases ho
theorem Rst.laidG (R : Rst K c G H σ ρ) (hp : H p = none) (ho : ∀ b, o ≠ .own b) : Rst K c (upd G p o) (upd H p o) σ ρ ∧ Same G (upd G p o) := by
 have R1 : Rst K c G (upd H p o) σ ρ := R.laid hp
 have s : Same G (upd G p o) := fun b u e => by rw [upd_ne (ne_of_none e (R.g_none hp))]; exact e
 refine ⟨R1.ground s (fun b u e => ?_) (fun b u e => ?_) fun i d a q r => ?_, s⟩
 · by_cases z : b = p
   · subst z; rw [upd_same] at e ⊢; exact e
   · rw [upd_ne z] at e ⊢; exact R.gh _ _ e
 · rw [upd_ne (ne_of_none e (R.f_none hp))]; exact R.fg _ _ e
 · obtain ⟨a', h1, h2, h3, h4⟩ := R.own i d q
   rw [r] at h1; cases h1
   obtain ⟨u, hu, _⟩ := h4.at
   refine ⟨by rw [upd_ne (ne_of_none hu hp)]; exact h2, fun b hb gb => ?_⟩
   by_cases z : b = p
   · subst z
     rw [upd_same] at hb
     exact absurd (Option.some.inj hb) (ho a)
   · rw [upd_ne z]; exact gb
theorem Rst.new_own {xs : List V} {ds : List D} (R : Rst K c G H σ ρ) (hp : H p = none) (r : RpL K G ds xs) : Rst K c G (upd H p (.lst xs)) σ ρ ∧ RpR K c G (upd H p (.lst xs)) σ ρ (.ref p) (.own (.lst ds)) :=
 ⟨R.laid hp, p, rfl, R.g_none hp, R.f_none hp, ⟨xs, upd_same, r⟩, R.not_slot hp⟩
theorem Rst.new_tup {xs : List V} {ds : List D} (R : Rst K c G H σ ρ) (hp : H p = none) (r : RpL K G ds xs) : ∃ G', Same G G' ∧ Rst K c G' (upd H p (.tup xs)) σ ρ ∧ Rp K G' (.tup ds) (.ref p) := by
 obtain ⟨R', s⟩ := R.laidG (o := .tup xs) hp fun b z => nomatch z
 exact ⟨_, s, R', p, xs, rfl, .inl (.inl upd_same), r.mono s⟩
end
section
variable {K : PySem.W.Frag} {c : Cn} {G H : Hp} {v : V}
theorem Rh.int {i : Int} (h : Rh K c G H (.int i) v) : v = .int i := by
 rcases h with h | ⟨a, _, _, _, h⟩
 · exact h
 · exact h.elim
theorem Rh.bl {b : Bool} (h : Rh K c G H (.bl b) v) : v = .bl b := by
 rcases h with h | ⟨a, _, _, _, h⟩
 · exact h
 · exact h.elim
theorem Rh.non (h : Rh K c G H .non v) : v = .non := by
 rcases h with h | ⟨a, _, _, _, h⟩
 · exact h
 · exact h.elim
theorem Rh.str {x : Str} (h : Rh K c G H (.str x) v) : v = .str x := by
 rcases h with h | ⟨a, _, _, _, h⟩
 · exact h
 · exact h.elim
theorem Rh.ty {n : String} (h : Rh K c G H (.ty n) v) : v = .ty n := by
 rcases h with h | ⟨a, _, _, _, h⟩
 · exact h
 · exact h.elim
theorem Rh.cls {n : Str} (h : Rh K c G H (.cls n) v) : v = .ref (He.ga K n) := by
 rcases h with h | ⟨a, _, _, _, h⟩
 · exact h
 · exact h.elim
theorem Rh.tup {ds : List D} (h : Rh K c G H (.tup ds) v) (s : Same G H) : ∃ a xs, v = .ref a ∧ SqT K G a xs ∧ SqT K H a xs ∧ RpL K G ds xs := by
 rcases h with ⟨a, xs, h1, h2, h3⟩ | ⟨a, _, _, _, h⟩
 · exact ⟨a, xs, h1, h2, Same.seqt s h2, h3⟩
 · exact h.elim
theorem Rh.lst {ds : List D} (h : Rh K c G H (.lst ds) v) (s : Same G H) : ∃ a xs, v = .ref a ∧ H a = some (.lst xs) ∧ RpL K G ds xs := by
 rcases h with ⟨a, xs, h1, h2, h3⟩ | ⟨a, h1, _, _, xs, h2, h3⟩
 · exact ⟨a, xs, h1, s _ _ h2, h3⟩
 · exact ⟨a, xs, h1, h2, h3⟩
theorem Rh.dic {ks vs : List D} (h : Rh K c G H (.dic ks vs) v) (s : Same G H) : ∃ a kvs, v = .ref a ∧ H a = some (.dK kvs) ∧ RpL K G ks (kvs.map fun p => kV p.1) ∧ RpL K G vs (kvs.map fun p => p.2) := by
 rcases h with ⟨a, xs, h1, h2, h3, h4⟩ | ⟨a, h1, _, _, xs, h2, h3, h4⟩
 · exact ⟨a, xs, h1, s _ _ h2, h3, h4⟩
 · exact ⟨a, xs, h1, h2, h3, h4⟩
theorem Rh.obj {n : Str} {ns : List Str} {ds : List D} (h : Rh K c G H (.obj n ns ds) v) (s : Same G H) : ∃ a dx xs, v = .ref a ∧ H a = some (.ins (He.ga K n) dx (ns.zip xs)) ∧ ns.length = ds.length ∧ RpL K G ds xs := by
 rcases h with ⟨a, dx, xs, h1, h2, h3, h4, h5⟩ | ⟨a, h1, _, _, dx, xs, h2, h3, h4, h5, h6, h7, h8⟩
 · exact ⟨a, dx, xs, h1, s _ _ h2, h4, h5⟩
 · exact ⟨a, dx, xs, h1, h2, h7, h8⟩
theorem Rh.scr {ns : List Int} (h : Rh K c G H (.scr ns) v) (s : Same G H) : ∃ a, v = .ref a ∧ SqL K H a (ns.map V.int) := by
 rcases h with ⟨a, h1, h2⟩ | ⟨a, _, _, _, h⟩
 · exact ⟨a, h1, s.seq h2⟩
 · exact h.elim
end
def BinR (K : PySem.W.Frag) (r : R2) (g : D → D → Option Rv) : Prop := ∀ {c : Cn} {G H : Hp} {σ : L2.St} {ρ : List S} {v w : V} {d e : D} {q : Rv} {Q : VK}, Rst K c G H σ ρ → Rh K c G H d v → Rh K c G H e w → g d e = some q →
 (∀ z G' H', Rst K c G' H' σ ρ → Same G G' → RpR K c G' H' σ ρ z q → Q z H') → r v w H Q
def mBin (g : D → D → Option Rv) (fa fb : M Rv) : M Rv := do
 let x ← fa
 let y ← fb
 let d ← peek (settle x)
 let e ← peek y
 ofO (g d e)
theorem ofO_wp {α : Type} {o : Option α} {ρ : List S} {OK : α → List S → Prop} {EX : Xn → List S → Prop} (h : wpM (ofO o ρ) OK EX) : ∃ a, o = some a ∧ OK a ρ := by
 unfold ofO at h
 cases o with
 | none => exact h.elim
 | some a => exact ⟨a, rfl, h⟩
theorem tD_bin {K : PySem.W.Frag} {W : WX} {g : D → D → Option Rv} {r : R2} {fa fb : M Rv} (hg : BinR K r g) {σ : L2.St} {H : Hp} {Q : VK} (h : tD K W (mBin g fa fb) σ H Q) : tOp r (tD K W fa) (tD K W fb) σ H Q := by
 obtain ⟨c, G, ρ, R, w⟩ := h
 refine tg_step R (Same.refl G) w fun x ρ1 v G1 H1 R1 s1 _ k1 w1 => ?_
 obtain ⟨G1', s1', R1', k1'⟩ := settle_ok R1 k1
 refine tg_step R1' (s1.trans s1') w1 fun y ρ2 u G2 H2 R2 s2 s12 k2 w2 => ?_
 obtain ⟨d, kd, w3⟩ := peek_wp R2 (RpRs.one (k1'.mono s12)) (wpM_bind w2)
 obtain ⟨e, ke, w4⟩ := peek_wp R2 k2 (wpM_bind w3)
 obtain ⟨q, eq, w5⟩ := ofO_wp w4
 exact hg R2 kd ke eq fun z G' H' R' s' kz => w5 z G' H' R' (s2.trans s') kz
section
variable {X : Cx} {W : WX} {a b e : Expr} {fa fb : M Rv} {pos : Pos} {g : D → D → Option Rv} {r : R2}
theorem de_bin {op : Operator} (ho : OpR X (binaryOp op) r) (hg : BinR X.K r g) (ha : DE X W a fa) (hb : DE X W b fb) : DE X W (.BinOp a op b pos) (mBin g fa fb) :=
 ⟨(pe_op ho ha.pe hb.pe).weak fun _ _ _ h => tD_bin hg h⟩
theorem de_cmp {op : CmpOp} (ho : OpR X (compareOp op) r) (hg : BinR X.K r g) (ha : DE X W a fa) (hb : DE X W b fb) (hm : behindInMarks op b = false := by rfl) : DE X W (.Compare a [op] [b] pos) (mBin g fa fb) :=
 ⟨(pe_cmpR ho ha.pe hb.pe hm).weak fun _ _ _ h => tD_bin hg h⟩
theorem OpR.or {f : Value → Value → Sem Value} {r r' : R2} (h : OpR X f r) (h' : OpR X f r') : OpR X f (fun x y H Q => r x y H Q ∨ r' x y H Q) := fun pins s σ H x y v u Q I rx ry q => by
 rcases q with q | q
 · exact h pins s σ H x y v u Q I rx ry q
 · exact h' pins s σ H x y v u Q I rx ry q
end
theorem BinR.or {K : PySem.W.Frag} {r r' : R2} {g g' : D → D → Option Rv} (h : BinR K r g) (h' : BinR K r' g') : BinR K (fun x y H Q => r x y H Q ∨ r' x y H Q) (fun d e => (g d e).or (g' d e)) := fun {c G H σ ρ v w d e q Q} R kd ke eq k => by
 have eq : (g d e).or (g' d e) = some q := eq
 cases z : g d e with
 | some q' => rw [z, Option.some_or] at eq; cases eq; exact .inl (h R kd ke z k)
 | none => rw [z, Option.none_or] at eq; exact .inr (h' R kd ke eq k)
def gII (g : Int → Int → D) : D → D → Option Rv
 | .int i, .int j => some (.val (g i j))
 | _, _ => none
def gIIc (C : Int → Int → Bool) (g : Int → Int → D) : D → D → Option Rv
 | .int i, .int j => if C i j then some (.val (g i j)) else none
 | _, _ => none
theorem gII_ok {K : PySem.W.Frag} {g : Int → Int → D} {gv : Int → Int → V} (hv : ∀ i j G, Rp K G (g i j) (gv i j)) : BinR K (rI0 gv) (gII g) := fun {c G H σ ρ v w d e q Q} R kd ke eq k => by
 cases d <;> cases e <;> first
  | (rename_i i j; cases eq; exact ⟨i, j, kd.int, ke.int, k _ G H R (Same.refl G) (hv i j G)⟩)
  | cases eq
theorem gIIc_ok {K : PySem.W.Frag} {C : Int → Int → Bool} {Cp : Int → Int → Prop} {g : Int → Int → D} {gv : Int → Int → V} (hc : ∀ i j, C i j = true → Cp i j) (hv : ∀ i j G, Rp K G (g i j) (gv i j)) : BinR K (rI Cp gv) (gIIc C g) := fun {c G H σ ρ v w d e q Q} R kd ke eq k => by
 cases d <;> cases e <;> first
  | (rename_i i j
     have eq' : (if C i j = true then some (Rv.val (g i j)) else none) = some q := eq
     by_cases hC : C i j = true
     · rw [if_pos hC] at eq'; cases eq'
       exact ⟨i, j, kd.int, ke.int, hc i j hC, k _ G H R (Same.refl G) (hv i j G)⟩
     · rw [if_neg hC] at eq'; cases eq')
  | cases eq
def gSS : D → D → Option Rv
 | .str x, .str y => if x.length + y.length ≤ sizeLine then some (.val (.str (x ++ y))) else none
 | _, _ => none
theorem gSS_ok {K : PySem.W.Frag} : BinR K (fun x y H Q => ∃ i j, x = .str i ∧ y = .str j ∧ i.length + j.length ≤ sizeLine ∧ Q (.str (i ++ j)) H) gSS := fun {c G H σ ρ v w d e q Q} R kd ke eq k => by
 cases d <;> cases e <;> first
  | (rename_i i j
     have eq' : (if i.length + j.length ≤ sizeLine then some (Rv.val (.str (i ++ j))) else none) = some q := eq
     by_cases hC : i.length + j.length ≤ sizeLine
     · rw [if_pos hC] at eq'; cases eq'
       exact ⟨i, j, kd.str, ke.str, hC, k _ G H R (Same.refl G) rfl⟩
     · rw [if_neg hC] at eq'; cases eq')
  | cases eq
def gTT : D → D → Option Rv
 | .tup xs, .tup ys => if xs.length + ys.length ≤ sizeLine then some (.val (.tup (xs ++ ys))) else none
 | _, _ => none
theorem gTT_ok {K : PySem.W.Frag} : BinR K (rCatA K) gTT := fun {c G H σ ρ v w d e q Q} R kd ke eq k => by
 cases d <;> cases e <;> first
  | (rename_i xs ys
     have eq' : (if xs.length + ys.length ≤ sizeLine then some (Rv.val (.tup (xs ++ ys))) else none) = some q := eq
     by_cases hC : xs.length + ys.length ≤ sizeLine
     · rw [if_pos hC] at eq'; cases eq'
       obtain ⟨a, vs, rfl, g1, h1, r1⟩ := kd.tup R.gh
       obtain ⟨b, ws, rfl, g2, h2, r2⟩ := ke.tup R.gh
       refine ⟨a, b, vs, ws, rfl, rfl, h1, h2, by rw [r1.length, r2.length]; exact hC, fun z => ?_, fun _ z => ?_, fun _ _ p hp => ?_⟩
       · subst z
         refine k _ G H R (Same.refl G) ⟨b, ws, rfl, g2, ?_⟩
         have r1' := r1.length; cases xs with
          | nil => exact r2
          | cons => cases r1'
       · subst z
         refine k _ G H R (Same.refl G) ⟨a, vs, rfl, g1, ?_⟩
         have r2' := r2.length; cases ys with
          | nil => rw [List.append_nil]; exact r1
          | cons => cases r2'
       · obtain ⟨G', s, R', rr⟩ := R.new_tup hp (r1.append r2)
         exact k _ G' _ R' s rr
     · rw [if_neg hC] at eq'; cases eq')
  | cases eq
def gLL : D → D → Option Rv
 | .lst xs, .lst ys => if xs.length + ys.length ≤ sizeLine then some (.own (.lst (xs ++ ys))) else none
 | _, _ => none
theorem gLL_ok {K : PySem.W.Frag} : BinR K rCat gLL := fun {c G H σ ρ v w d e q Q} R kd ke eq k => by
 cases d <;> cases e <;> first
  | (rename_i xs ys
     have eq' : (if xs.length + ys.length ≤ sizeLine then some (Rv.own (.lst (xs ++ ys))) else none) = some q := eq
     by_cases hC : xs.length + ys.length ≤ sizeLine
     · rw [if_pos hC] at eq'; cases eq'
       obtain ⟨a, vs, rfl, h1, r1⟩ := kd.lst R.gh
       obtain ⟨b, ws, rfl, h2, r2⟩ := ke.lst R.gh
       refine ⟨a, b, vs, ws, rfl, rfl, h1, h2, by rw [r1.length, r2.length]; exact hC, fun p hp => ?_⟩
       obtain ⟨R', rr⟩ := R.new_own hp (r1.append r2)
       exact k _ G _ R' (Same.refl G) rr
     · rw [if_neg hC] at eq'; cases eq')
  | cases eq
def dAdd : D → D → Option Rv := fun d e => ((gII fun i j => .int (i + j)) d e).or ((gTT d e).or ((gLL d e).or (gSS d e)))
theorem add_op {X : Cx} : ∃ r, OpR X (binaryOp .Add) r ∧ BinR X.K r dAdd :=
 ⟨_, op_add.or (op_catA.or (op_cat.or op_add_str)), BinR.or (gII_ok (gv := fun i j => .int (i + j)) fun _ _ _ => by exact rfl) (BinR.or gTT_ok (BinR.or gLL_ok gSS_ok))⟩
def dSub : D → D → Option Rv := gII fun i j => .int (i - j)
theorem sub_op {X : Cx} : ∃ r, OpR X (binaryOp .Sub) r ∧ BinR X.K r dSub := ⟨_, op_sub, gII_ok fun _ _ _ => by exact rfl⟩
def mulOk (i j : Int) : Bool := decide (-(2 ^ 64) < i ∧ i < 2 ^ 64) || decide (-(2 ^ 64) < j ∧ j < 2 ^ 64)
def dMul : D → D → Option Rv := gIIc mulOk fun i j => .int (i * j)
theorem mul_op {X : Cx} : ∃ r, OpR X (binaryOp .Mult) r ∧ BinR X.K r dMul := ⟨_, op_mul, gIIc_ok (fun i j h => by
 unfold mulOk at h
 rcases Bool.or_eq_true_iff.mp h with h | h
 · exact .inl (of_decide_eq_true h)
 · exact .inr (of_decide_eq_true h)) fun _ _ _ => by exact rfl⟩
def divOk (_ j : Int) : Bool := decide (0 < j ∧ j < 2 ^ 64)
def dDiv : D → D → Option Rv := gIIc divOk fun i j => .int (i / j)
theorem div_op {X : Cx} : ∃ r, OpR X (binaryOp .FloorDiv) r ∧ BinR X.K r dDiv := ⟨_, op_fdivW, gIIc_ok (fun i j h => by
 obtain ⟨h1, h2⟩ := of_decide_eq_true (p := 0 < j ∧ j < 2 ^ 64) h
 exact wide_div (b := 64) h1 (by omega) (by decide) (by decide)) fun _ _ _ => by exact rfl⟩
def modOk (_ j : Int) : Bool := decide (0 < j)
def dMod : D → D → Option Rv := gIIc modOk fun i j => .int (i % j)
theorem mod_op {X : Cx} : ∃ r, OpR X (binaryOp .Mod) r ∧ BinR X.K r dMod := ⟨_, op_mod, gIIc_ok (fun i j h => of_decide_eq_true (p := 0 < j) h) fun _ _ _ => by exact rfl⟩
def powOk (i j : Int) : Bool := decide (0 ≤ j ∧ j ≤ 1000 ∧ i.natAbs < 2 ^ 64)
def dPow : D → D → Option Rv := gIIc powOk fun i j => .int (i ^ j.toNat)
theorem pow_op {X : Cx} : ∃ r, OpR X (binaryOp .Pow) r ∧ BinR X.K r dPow := ⟨_, op_pow, gIIc_ok (fun i j h => by
 obtain ⟨h1, h2, h3⟩ := of_decide_eq_true (p := 0 ≤ j ∧ j ≤ 1000 ∧ i.natAbs < 2 ^ 64) h
 exact ⟨h1, by omega, h3⟩) fun _ _ _ => by exact rfl⟩
def dLt : D → D → Option Rv := gII fun i j => .bl (decide (i < j))
def dLe : D → D → Option Rv := gII fun i j => .bl (decide (i ≤ j))
def dGt : D → D → Option Rv := gII fun i j => .bl (decide (j < i))
def dGe : D → D → Option Rv := gII fun i j => .bl (decide (j ≤ i))
theorem lt_op {X : Cx} : ∃ r, OpR X (compareOp .Lt) r ∧ BinR X.K r dLt := ⟨_, op_lt, gII_ok fun _ _ _ => by exact rfl⟩
theorem gt_op {X : Cx} : ∃ r, OpR X (compareOp .Gt) r ∧ BinR X.K r dGt := ⟨_, op_gt, gII_ok fun _ _ _ => by exact rfl⟩
theorem ge_op {X : Cx} : ∃ r, OpR X (compareOp .GtE) r ∧ BinR X.K r dGe := ⟨_, op_ge, gII_ok fun _ _ _ => by exact rfl⟩
section
variable {X : Cx} {W : WX} {a b e : Expr} {fa fb : M Rv} {pos : Pos}
abbrev eAdd := mBin dAdd
abbrev eSub := mBin dSub
abbrev eMul := mBin dMul
abbrev eDiv := mBin dDiv
abbrev eMod := mBin dMod
abbrev ePow := mBin dPow
abbrev eLt := mBin dLt
abbrev eGt := mBin dGt
abbrev eGe := mBin dGe
theorem de_add (ha : DE X W a fa) (hb : DE X W b fb) : DE X W (.BinOp a .Add b pos) (eAdd fa fb) := let ⟨_, h1, h2⟩ := add_op; de_bin h1 h2 ha hb
theorem de_sub (ha : DE X W a fa) (hb : DE X W b fb) : DE X W (.BinOp a .Sub b pos) (eSub fa fb) := let ⟨_, h1, h2⟩ := sub_op; de_bin h1 h2 ha hb
theorem de_mul (ha : DE X W a fa) (hb : DE X W b fb) : DE X W (.BinOp a .Mult b pos) (eMul fa fb) := let ⟨_, h1, h2⟩ := mul_op; de_bin h1 h2 ha hb
theorem de_div (ha : DE X W a fa) (hb : DE X W b fb) : DE X W (.BinOp a .FloorDiv b pos) (eDiv fa fb) := let ⟨_, h1, h2⟩ := div_op; de_bin h1 h2 ha hb
theorem de_mod (ha : DE X W a fa) (hb : DE X W b fb) : DE X W (.BinOp a .Mod b pos) (eMod fa fb) := let ⟨_, h1, h2⟩ := mod_op; de_bin h1 h2 ha hb
theorem de_pow (ha : DE X W a fa) (hb : DE X W b fb) : DE X W (.BinOp a .Pow b pos) (ePow fa fb) := let ⟨_, h1, h2⟩ := pow_op; de_bin h1 h2 ha hb
theorem de_ge (ha : DE X W a fa) (hb : DE X W b fb) : DE X W (.Compare a [.GtE] [b] pos) (eGe fa fb) := let ⟨_, h1, h2⟩ := ge_op; de_cmp h1 h2 ha hb (nomark _)
end
end Dl
namespace Dl
open PySem L2
mutual
def toP : D → Option PyData
 | .non => some .none
 | .bl b => some (.bool b)
 | .int i => some (.int i)
 | .str x => some (.str x)
 | .lst ds => (toPs ds).map .list
 | .tup ds => (toPs ds).map .tuple
 | _ => none
def toPs : List D → Option (List PyData)
 | [] => some []
 | d :: ds => match toP d, toPs ds with
  | some p, some ps => some (p :: ps)
  | _, _ => none
end
section
variable {K : PySem.W.Frag} {c : Cn} {G H : Hp}
mutual
theorem dp_of (s : Same G H) : ∀ (d : D) (v : V) (p : PyData), Rp K G d v → toP d = some p → Dp K H v p
 | .non, _, _, h, e => by cases h; cases e; exact .non
 | .bl b, _, _, h, e => by cases h; cases e; exact .bl b
 | .int b, _, _, h, e => by cases h; cases e; exact .int b
 | .str b, _, _, h, e => by cases h; cases e; exact .str b
 | .lst ds, _, _, ⟨a, xs, h1, h2, h3⟩, e => by
  have e : (toPs ds).map PyData.list = some _ := e
  obtain ⟨ps, e1, e2⟩ := Option.map_eq_some_iff.mp e
  subst h1 e2
  exact .lst (.inl (.inl (s _ _ h2))) (dps_of s ds xs ps h3 e1)
 | .tup ds, _, _, ⟨a, xs, h1, h2, h3⟩, e => by
  have e : (toPs ds).map PyData.tuple = some _ := e
  obtain ⟨ps, e1, e2⟩ := Option.map_eq_some_iff.mp e
  subst h1 e2
  exact .tup (Same.seqt s h2) (dps_of s ds xs ps h3 e1)
 | .obj _ _ _, _, _, _, e => by cases e
 | .dic _ _, _, _, _, e => by cases e
 | .ndi _ _, _, _, _, e => by cases e
 | .xob _ _ _ _, _, _, _, e => by cases e
 | .scr _, _, _, _, e => by cases e
 | .ty _, _, _, _, e => by cases e
 | .cls _, _, _, _, e => by cases e
theorem dps_of (s : Same G H) : ∀ (ds : List D) (xs : List V) (ps : List PyData), RpL K G ds xs → toPs ds = some ps → DpAll K H xs ps
 | [], _, _, h, e => by cases h; cases e; exact .nil
 | d :: ds, _, _, ⟨x, r, h1, h2, h3⟩, e => by
  have e : (match toP d, toPs ds with
   | some p, some ps => some (p :: ps)
   | _, _ => none) = some _ := e
  cases q1 : toP d with
  | none => rw [q1] at e; cases e
  | some p =>
   cases q2 : toPs ds with
   | none => rw [q1, q2] at e; cases e
   | some ps =>
    rw [q1, q2] at e
    cases e
    subst h1
    exact .cons (dp_of s d x p h2 q1) (dps_of s ds r ps h3 q2)
end
theorem Rh.dp {d : D} {v : V} {p : PyData} (h : Rh K c G H d v) (s : Same G H) (e : toP d = some p) : Dp K H v p := by
 rcases h with h | ⟨a, rfl, _, _, h⟩
 · exact dp_of s d v p h e
 · cases d with
   | lst ds =>
    obtain ⟨xs, h1, h2⟩ := h
    have e : (toPs ds).map PyData.list = some _ := e
    obtain ⟨ps, e1, e2⟩ := Option.map_eq_some_iff.mp e
    subst e2
    exact .lst (.inl (.inl h1)) (dps_of s ds xs ps h2 e1)
   | obj => cases e
   | dic => cases e
   | ndi => cases e
   | _ => exact h.elim
end
def dEqB (d e : D) : Option Bool := match toP d, toP e with
 | some p, some q => if (SeqAt.shaped p && SeqAt.shaped q) = true then some (PyData.eqv p q) else none
 | _, _ => none
def dEq (d e : D) : Option Rv := (dEqB d e).map fun b => .val (.bl b)
def dNe (d e : D) : Option Rv := (dEqB d e).map fun b => .val (.bl (!b))
theorem dEqB_some {d e : D} {b : Bool} (h : dEqB d e = some b) : ∃ p q, toP d = some p ∧ toP e = some q ∧ SeqAt.shaped p = true ∧ SeqAt.shaped q = true ∧ b = PyData.eqv p q := by
 unfold dEqB at h
 cases h1 : toP d with
 | none => rw [h1] at h; cases h
 | some p =>
  cases h2 : toP e with
  | none => rw [h1, h2] at h; cases h
  | some q =>
   rw [h1, h2] at h
   dsimp only at h
   by_cases hs : (SeqAt.shaped p && SeqAt.shaped q) = true
   · rw [if_pos hs] at h
     cases h
     obtain ⟨k1, k2⟩ := Bool.and_eq_true_iff.mp hs
     exact ⟨p, q, rfl, rfl, k1, k2, rfl⟩
   · rw [if_neg hs] at h; cases h
theorem eq_ok {K : PySem.W.Frag} : BinR K (rEqD K) dEq := fun {c G H σ ρ v w d e q Q} R kd ke eq k => by
 obtain ⟨b, h1, h2⟩ := Option.map_eq_some_iff.mp eq
 obtain ⟨p1, p2, e1, e2, s1, s2, rfl⟩ := dEqB_some h1
 subst h2
 exact ⟨p1, p2, kd.dp R.gh e1, ke.dp R.gh e2, s1, s2, k _ G H R (Same.refl G) rfl⟩
theorem ne_ok {K : PySem.W.Frag} : BinR K (rNeD K) dNe := fun {c G H σ ρ v w d e q Q} R kd ke eq k => by
 obtain ⟨b, h1, h2⟩ := Option.map_eq_some_iff.mp eq
 obtain ⟨p1, p2, e1, e2, s1, s2, rfl⟩ := dEqB_some h1
 subst h2
 exact ⟨p1, p2, kd.dp R.gh e1, ke.dp R.gh e2, s1, s2, k _ G H R (Same.refl G) rfl⟩
def flD : D → Bool
 | .non => true
 | .bl _ => true
 | .int _ => true
 | .str _ => true
 | _ => false
def feq : D → D → Bool
 | .non, .non => true
 | .bl a, .bl b => a == b
 | .bl a, .int b => (if a then 1 else 0) == b
 | .int a, .bl b => a == (if b then 1 else 0)
 | .int a, .int b => a == b
 | .str a, .str b => a == b
 | _, _ => false
theorem flat_rp {K : PySem.W.Frag} {G : Hp} {d : D} {v : V} (h : Rp K G d v) (f : flD d = true) : flatV v = true := by
 cases d <;> first | (cases h; rfl) | cases f
theorem feq_rp {K : PySem.W.Frag} {G : Hp} {d e : D} {v w : V} (h : Rp K G d v) (h' : Rp K G e w) (f : flD d = true) (f' : flD e = true) : eqV v w = feq d e := by
 cases d <;> first | (cases f; done) | (cases e <;> first | (cases f'; done) | (cases h; cases h'; rfl))
theorem flat_all {K : PySem.W.Frag} {G : Hp} : ∀ {ds : List D} {vs : List V}, RpL K G ds vs → ds.all flD = true → vs.all flatV = true
 | [], _, h, _ => by cases h; rfl
 | d :: ds, _, ⟨x, r, h1, h2, h3⟩, f => by
  obtain ⟨f1, f2⟩ := Bool.and_eq_true_iff.mp (show (flD d && ds.all flD) = true from f)
  subst h1
  show (flatV x && r.all flatV) = true
  rw [flat_rp h2 f1, flat_all h3 f2]; rfl
theorem inV_rp {K : PySem.W.Frag} {G : Hp} {d : D} {v : V} (hd : Rp K G d v) (fd : flD d = true) : ∀ {ds : List D} {vs : List V}, RpL K G ds vs → ds.all flD = true → inV v vs = ds.any fun y => feq y d
 | [], _, h, _ => by cases h; rfl
 | e :: ds, _, ⟨x, r, h1, h2, h3⟩, f => by
  obtain ⟨f1, f2⟩ := Bool.and_eq_true_iff.mp (show (flD e && ds.all flD) = true from f)
  subst h1
  show (eqV x v || inV v r) = (feq e d || ds.any fun y => feq y d)
  rw [feq_rp h2 hd f1 fd, inV_rp hd fd h3 f2]
def items : D → Option (List D)
 | .lst xs => some xs
 | .tup xs => some xs
 | _ => none
def dInB (x y : D) : Option Bool := match items y with
 | some ys => if (flD x && ys.all flD) = true then some (ys.any fun z => feq z x) else none
 | none => none
def dIn (x y : D) : Option Rv := (dInB x y).map fun b => .val (.bl b)
def dNotIn (x y : D) : Option Rv := (dInB x y).map fun b => .val (.bl (!b))
theorem dInB_some {K : PySem.W.Frag} {c : Cn} {G H : Hp} {x y : D} {b : Bool} {v w : V} (s : Same G H) (h : dInB x y = some b) (hx : Rh K c G H x v) (hy : Rh K c G H y w) :
  ∃ p xs, w = .ref p ∧ (SqL K H p xs ∨ SqT K H p xs) ∧ flatV v = true ∧ xs.all flatV = true ∧ inV v xs = b := by
 unfold dInB at h
 cases e : items y with
 | none => rw [e] at h; cases h
 | some ys =>
  rw [e] at h
  dsimp only at h
  by_cases hf : (flD x && ys.all flD) = true
  · rw [if_pos hf] at h
    cases h
    obtain ⟨f1, f2⟩ := Bool.and_eq_true_iff.mp hf
    have rx : Rp K G x v := by
     rcases hx with h | ⟨a, _, _, _, h⟩
     · exact h
     · cases x <;> first | exact h.elim | cases f1
    cases y with
    | lst zs =>
     cases e
     obtain ⟨a, xs, h1, h2, h3⟩ := hy.lst s
     exact ⟨a, xs, h1, .inl (.inl (.inl h2)), flat_rp rx f1, flat_all h3 f2, inV_rp rx f1 h3 f2⟩
    | tup zs =>
     cases e
     obtain ⟨a, xs, h1, _, h2, h3⟩ := hy.tup s
     exact ⟨a, xs, h1, .inr h2, flat_rp rx f1, flat_all h3 f2, inV_rp rx f1 h3 f2⟩
    | _ => cases e
  · rw [if_neg hf] at h; cases h
theorem in_ok {K : PySem.W.Frag} : BinR K (rIn K false) dIn := fun {c G H σ ρ v w d e q Q} R kd ke eq k => by
 obtain ⟨b, h1, h2⟩ := Option.map_eq_some_iff.mp eq
 subst h2
 obtain ⟨p, xs, rfl, hs, f1, f2, hb⟩ := dInB_some R.gh h1 kd ke
 refine ⟨p, xs, rfl, hs, f1, f2, k _ G H R (Same.refl G) ?_⟩
 show V.bl (inV v xs) = V.bl b
 rw [hb]
def dIsN (d e : D) : Option Rv := match d, e with
 | .non, .non => some (.val (.bl true))
 | .obj _ _ _, .non | .int _, .non | .bl _, .non | .str _, .non | .lst _, .non | .tup _, .non | .dic _ _, .non => some (.val (.bl false))
 | .bl a, .bl b => some (.val (.bl (decide (a = b))))
 | _, _ => none
def dNotN (d e : D) : Option Rv := match d, e with
 | .non, .non => some (.val (.bl false))
 | .obj _ _ _, .non | .int _, .non | .bl _, .non | .str _, .non | .lst _, .non | .tup _, .non | .dic _ _, .non => some (.val (.bl true))
 | .bl a, .bl b => some (.val (.bl (!decide (a = b))))
 | _, _ => none
theorem Rh.nn {K : PySem.W.Frag} {c : Cn} {G H : Hp} {d : D} {v : V} (h : Rh K c G H d v) (n : d ≠ .non) : v ≠ .non := by
 intro z
 subst z
 rcases h with h | ⟨a, e, _⟩
 · cases d <;> first | (exact n rfl) | (exact nomatch h) | (obtain ⟨_, _, e, _⟩ := h; cases e) | (obtain ⟨_, e, _⟩ := h; cases e)
 · cases e
theorem is_ok {K : PySem.W.Frag} : BinR K (fun x y H Q => (y = .non ∧ Q (.bl (decide (x = .non))) H) ∨ rIsB x y H Q) dIsN := fun {c G H σ ρ v w d e q Q} R kd ke eq k => by
 have no : ∀ {d : D}, Rh K c G H d v → d ≠ .non → e = .non → q = .val (.bl false) → (w = .non ∧ Q (.bl (decide (v = .non))) H) := fun {d} kd n he hq => by
  subst he hq
  refine ⟨ke.non, k _ G H R (Same.refl G) ?_⟩
  show V.bl _ = V.bl false
  rw [decide_eq_false (kd.nn n)]
 cases d <;> cases e <;> first
  | (cases eq; done)
  | (cases eq; exact .inl (no kd (by intro z; cases z) rfl rfl))
  | (cases eq
     refine .inl ⟨ke.non, k _ G H R (Same.refl G) ?_⟩
     show V.bl _ = V.bl true
     rw [decide_eq_true kd.non])
  | (cases eq
     rename_i a b
     exact .inr ⟨a, b, kd.bl, ke.bl, k _ G H R (Same.refl G) rfl⟩)
section
variable {X : Cx} {W : WX} {a b e : Expr} {fa fb : M Rv} {pos : Pos}
def dInDeep (x y : D) : Option Bool := match y with
 | .lst ys => match toP x, toPs ys with
  | some d, some ds => if (SeqAt.shaped d && SeqAt.shaped (.list ds)) = true then some (ds.any fun z => PyData.eqv z d) else none
  | _, _ => none
 | _ => none
def dInD (x y : D) : Option Rv := (dInDeep x y).map fun b => .val (.bl b)
def dNotInD (x y : D) : Option Rv := (dInDeep x y).map fun b => .val (.bl (!b))
theorem dInDeep_some {x y : D} {b : Bool} (h : dInDeep x y = some b) : ∃ d ds, toP x = some d ∧ toP y = some (.list ds) ∧ SeqAt.shaped d = true ∧ SeqAt.shaped (.list ds) = true ∧ b = (ds.any fun z => PyData.eqv z d) := by
 unfold dInDeep at h
 cases y <;> first
  | (cases h; done)
  | (rename_i ys
     dsimp only at h
     cases h1 : toP x with
     | none => rw [h1] at h; cases h
     | some d =>
      cases h2 : toPs ys with
      | none => rw [h1, h2] at h; cases h
      | some ds =>
       rw [h1, h2] at h
       dsimp only at h
       by_cases hs : (SeqAt.shaped d && SeqAt.shaped (.list ds)) = true
       · rw [if_pos hs] at h
         cases h
         obtain ⟨k1, k2⟩ := Bool.and_eq_true_iff.mp hs
         exact ⟨d, ds, rfl, by unfold toP; rw [h2]; rfl, k1, k2, rfl⟩
       · rw [if_neg hs] at h; cases h)
theorem inD_ok {K : PySem.W.Frag} : BinR K (rInD K) dInD := fun {c G H σ ρ v w d e q Q} R kd ke eq k => by
 obtain ⟨b, h1, h2⟩ := Option.map_eq_some_iff.mp eq
 obtain ⟨p1, p2, e1, e2, s1, s2, rfl⟩ := dInDeep_some h1
 subst h2
 exact ⟨p1, p2, kd.dp R.gh e1, ke.dp R.gh e2, s1, s2, k _ G H R (Same.refl G) rfl⟩
def dIn2 (x y : D) : Option Rv := (dIn x y).or (dInD x y)
def dNotIn2 (x y : D) : Option Rv := (dNotIn x y).or (dNotInD x y)
abbrev eEq := mBin dEq
abbrev eNe := mBin dNe
abbrev eIn := mBin dIn2
abbrev eIs := mBin dIsN
def Rm (X : Cx) : Prop := X.A.units + 65 < cLine
theorem de_eq (hu : Rm X) (ha : DE X W a fa) (hb : DE X W b fb) : DE X W (.Compare a [.Eq] [b] pos) (eEq fa fb) := de_cmp (op_eqD (Nat.lt_of_succ_lt hu)) eq_ok ha hb (nomark _)
theorem de_is (ha : DE X W a fa) (hb : DE X W b fb) : DE X W (.Compare a [.Is] [b] pos) (eIs fa fb) := de_cmp (op_isN.or op_isBl) is_ok ha hb (nomark _)
end
def truD : D → Option Bool
 | .non => some false
 | .bl b => some b
 | .int i => some (i != 0)
 | .lst xs => some (!xs.isEmpty)
 | .tup xs => some (!xs.isEmpty)
 | .dic ks _ => some (!ks.isEmpty)
 | _ => none
theorem truD_ok {K : PySem.W.Frag} {c : Cn} {G H : Hp} {d : D} {v : V} {b : Bool} (s : Same G H) (h : Rh K c G H d v) (e : truD d = some b) : TruV K v H b := by
 cases d with
 | non => cases e; rw [h.non]; rfl
 | bl k => cases e; rw [h.bl]; rfl
 | int i => cases e; rw [h.int]; rfl
 | lst ds =>
  cases e
  obtain ⟨a, xs, rfl, h2, h3⟩ := h.lst s
  have hl := h3.length
  refine .inl ⟨xs, .inl (.inl h2), ?_⟩
  cases ds <;> cases xs <;> first | rfl | cases hl
 | tup ds =>
  cases e
  obtain ⟨a, xs, rfl, _, h2, h3⟩ := h.tup s
  have hl := h3.length
  refine .inr (.inl ⟨xs, h2, ?_⟩)
  cases ds <;> cases xs <;> first | rfl | cases hl
 | dic ks vs =>
  cases e
  obtain ⟨a, xs, rfl, h2, h3, _⟩ := h.dic s
  have hl := h3.length
  refine .inr (.inr ⟨xs, h2, ?_⟩)
  cases ks <;> cases xs <;> first | rfl | cases hl
 | _ => cases e
def tru (r : Rv) : M Bool := do
 let d ← peek r
 ofO (truD d)
theorem tru_wp {K : PySem.W.Frag} {c : Cn} {G H : Hp} {σ : L2.St} {ρ : List S} {v : V} {r : Rv} {OK : Bool → List S → Prop} {EX : Xn → List S → Prop} (R : Rst K c G H σ ρ) (h : RpR K c G H σ ρ v r) (w : wpM (tru r ρ) OK EX) :
  ∃ b, TruV K v H b ∧ OK b ρ := by
 obtain ⟨d, kd, w1⟩ := peek_wp R h (wpM_bind w)
 obtain ⟨b, eb, w2⟩ := ofO_wp w1
 exact ⟨b, truD_ok R.gh kd eb, w2⟩
section
variable {X : Cx} {W : WX} {a b e cc : Expr} {rest : List Expr} {fa fb : M Rv} {ga gb : M Bool} {pos : Pos}
def tVal (fa : M Rv) : M Bool := do
 let r ← fa
 tru r
theorem dt_val (ha : DE X W a fa) (he : ∀ whole, isTrue a X.env whole = (do let v ← whole; standAt a.pos; holding [v] (truthy v)) := by intro _; rfl) : DT X W a (tVal fa) :=
 ⟨(pt_truth ha.pe he).weak fun σ H Q ⟨c, G, ρ, R, w⟩ => tg_step R (Same.refl G) w fun x ρ1 v G1 H1 R1 s1 _ k1 w1 => by
  obtain ⟨b, hb, w2⟩ := tru_wp R1 k1 w1
  exact ⟨b, hb, w2 b G1 H1 R1 s1 rfl⟩⟩
def tNot (ga : M Bool) : M Bool := do
 let b ← ga
 pure (!b)
theorem dt_not (ha : DT X W a ga) : DT X W (.UnaryOp .Not a pos) (tNot ga) :=
 ⟨(pt_not ha.pt).weak fun σ H Q ⟨c, G, ρ, R, w⟩ => tg_step R (Same.refl G) w fun x ρ1 v G1 H1 R1 s1 _ k1 w1 => by
  obtain rfl : v = x := k1
  exact w1 (!v) G1 H1 R1 s1 rfl⟩
def tAnd (ga gb : M Bool) : M Bool := do
 let b ← ga
 if b = true then gb else pure false
def tOr (ga gb : M Bool) : M Bool := do
 let b ← ga
 if b = true then pure true else gb
theorem DW.t (h : DW X W e ga) : DT X W e ga := ⟨h.pw.pt⟩
theorem dw_and1 (ha : DT X W a ga) : DW X W (.BoolOp .And [a] pos) ga := ⟨pw_and1 ha.pt⟩
theorem dw_or1 (ha : DT X W a ga) : DW X W (.BoolOp .Or [a] pos) ga := ⟨pw_or1 ha.pt⟩
theorem dw_and (ha : DT X W a ga) (hb : DW X W (.BoolOp .And (b :: rest) pos) gb) : DW X W (.BoolOp .And (a :: b :: rest) pos) (tAnd ga gb) :=
 ⟨(pw_and ha.pt hb.pw).weak fun σ H Q ⟨c, G, ρ, R, w⟩ => tg_step R (Same.refl G) w fun x ρ1 v G1 H1 R1 s1 _ k1 w1 => by
  obtain rfl : v = x := k1
  cases v with
  | true =>
   rw [if_pos rfl] at w1 ⊢
   exact ⟨c, G1, ρ1, R1, wpM_mono w1 (fun y ρ2 h b' G' H' R' s' k' => h b' G' H' R' (s1.trans s') k') fun _ _ x => x.mono s1⟩
  | false =>
   rw [if_neg Bool.false_ne_true] at w1 ⊢
   exact w1 false G1 H1 R1 s1 rfl⟩
theorem dw_or (ha : DT X W a ga) (hb : DW X W (.BoolOp .Or (b :: rest) pos) gb) : DW X W (.BoolOp .Or (a :: b :: rest) pos) (tOr ga gb) :=
 ⟨(pw_or ha.pt hb.pw).weak fun σ H Q ⟨c, G, ρ, R, w⟩ => tg_step R (Same.refl G) w fun x ρ1 v G1 H1 R1 s1 _ k1 w1 => by
  obtain rfl : v = x := k1
  cases v with
  | true =>
   rw [if_pos rfl] at w1 ⊢
   exact w1 true G1 H1 R1 s1 rfl
  | false =>
   rw [if_neg Bool.false_ne_true] at w1 ⊢
   exact ⟨c, G1, ρ1, R1, wpM_mono w1 (fun y ρ2 h b' G' H' R' s' k' => h b' G' H' R' (s1.trans s') k') fun _ _ x => x.mono s1⟩⟩
def eNot (fa : M Rv) : M Rv := do
 let r ← fa
 let b ← tru r
 pure (.val (.bl (!b)))
theorem de_not (ha : DE X W a fa) : DE X W (.UnaryOp .Not a pos) (eNot fa) :=
 ⟨(pe_notT ha.pe).weak fun σ H Q ⟨c, G, ρ, R, w⟩ => tg_step R (Same.refl G) w fun x ρ1 v G1 H1 R1 s1 _ k1 w1 => by
  obtain ⟨b, hb, w2⟩ := tru_wp R1 k1 (wpM_bind w1)
  exact ⟨b, hb, w2 (.bl (!b)) G1 H1 R1 s1 rfl⟩⟩
def eAnd (fa fb : M Rv) : M Rv := do
 let r ← fa
 let b ← tru (settle r)
 if b = true then fb else pure (settle r)
def eOr (fa fb : M Rv) : M Rv := do
 let r ← fa
 let b ← tru (settle r)
 if b = true then pure (settle r) else fb
theorem de_one {op : BoolOp} (ha : DE X W a fa) : DE X W (.BoolOp op [a] pos) fa := ⟨pe_one ha.pe⟩
theorem de_and (ha : DE X W a fa) (hb : DE X W (.BoolOp .And (b :: rest) pos) fb) : DE X W (.BoolOp .And (a :: b :: rest) pos) (eAnd fa fb) :=
 ⟨(pe_andT ha.pe hb.pe).weak fun σ H Q ⟨c, G, ρ, R, w⟩ => tg_step R (Same.refl G) w fun x ρ1 v G1 H1 R1 s1 _ k1 w1 => by
  obtain ⟨G1', s1', R1', k1'⟩ := settle_ok R1 k1
  obtain ⟨b, hb, w2⟩ := tru_wp R1' k1'.one (wpM_bind w1)
  refine ⟨b, hb, ?_⟩
  cases b with
  | true =>
   rw [if_pos rfl] at w2 ⊢
   exact ⟨c, G1', ρ1, R1', wpM_mono w2 (fun y ρ2 h b' G' H' R' s' k' => h b' G' H' R' ((s1.trans s1').trans s') k') fun _ _ x => x.mono (s1.trans s1')⟩
  | false =>
   rw [if_neg Bool.false_ne_true] at w2 ⊢
   exact w2 v G1' H1 R1' (s1.trans s1') k1'.one⟩
def eIf (g : M Bool) (fa fb : M Rv) : M Rv := do
 let b ← g
 if b = true then fa else fb
def eNeg (fa : M Rv) : M Rv := do
 let r ← fa
 let d ← peek r
 match d with
 | .int i => pure (.val (.int (-i)))
 | _ => M.fail
theorem de_neg (ha : DE X W a fa) : DE X W (.UnaryOp .USub a pos) (eNeg fa) :=
 ⟨(pe_un un_neg ha.pe).weak fun σ H Q ⟨c, G, ρ, R, w⟩ => tg_step R (Same.refl G) w fun x ρ1 v G1 H1 R1 s1 _ k1 w1 => by
  obtain ⟨d, kd, w2⟩ := peek_wp R1 k1 (wpM_bind w1)
  cases d <;> first
   | exact w2.elim
   | (rename_i i; exact ⟨i, kd.int, w2 (.int (-i)) G1 H1 R1 s1 rfl⟩)⟩
end
end Dl
namespace Dl
open PySem L2
section
variable {K : PySem.W.Frag} {c : Cn} {G G' H H' : Hp} {σ : L2.St} {ρ ρ' : List S} {v : V} {d : D} {r : Rv} {rs : List Rv} {vs : List V}
theorem RpRs.vals : ∀ {ds : List D} {vs : List V}, RpL K G ds vs → RpRs K G σ vs (ds.map Rv.val)
 | [], _, h => by cases h; trivial
 | d :: ds, _, ⟨x, r, h1, h2, h3⟩ => by subst h1; exact ⟨h2, RpRs.vals h3⟩
theorem RpRs.append : ∀ {vs ws : List V} {rs qs : List Rv}, RpRs K G σ vs rs → RpRs K G σ ws qs → RpRs K G σ (vs ++ ws) (rs ++ qs)
 | [], ws, [], qs, _, k => k
 | v :: vs, ws, r :: rs, qs, h, k => let ⟨h1, h2⟩ := h.head; RpRs.cons h1 (h2.append k)
 | [], _, _ :: _, _, h, _ => h.elim
 | _ :: _, _, [], _, h, _ => h.elim
end
section
variable {X : Cx} {W : WX} {a b e : Expr} {es : List Expr} {fa fb : M Rv} {ga : M (List Rv)} {pos p : Pos}
def eTup (ga : M (List Rv)) : M Rv := do
 let rs ← ga
 let ds ← toVs rs
 if ds.length ≤ sizeLine then pure (.val (.tup ds)) else M.fail
def eLst (ga : M (List Rv)) : M Rv := do
 let rs ← ga
 let ds ← toVs rs
 if ds.length ≤ sizeLine then pure (.own (.lst ds)) else M.fail
theorem de_tup {k} (ha : DA X W es ga) : DE X W (.Tuple es k pos) (eTup ga) :=
 ⟨(pe_tup ha.pa).weak fun σ H Q ⟨c, G, ρ, R, w⟩ => tg_step R (Same.refl G) w fun rs ρ1 vs G1 H1 R1 s1 _ k1 w1 => by
  obtain ⟨ds, G2, ρ2, s2, R2, k2, w2⟩ := toVs_wp R1 k1 (wpM_bind w1)
  by_cases hl : ds.length ≤ sizeLine
  · rw [if_pos hl] at w2
    refine ⟨by rw [k2.length]; exact hl, fun p hp => ?_⟩
    obtain ⟨G3, s3, R3, k3⟩ := R2.new_tup hp k2
    exact w2 _ G3 _ R3 ((s1.trans s2).trans s3) k3
  · rw [if_neg hl] at w2; exact w2.elim⟩
theorem de_lst (ha : DA X W es ga) : DE X W (.List es pos) (eLst ga) :=
 ⟨(pe_lst ha.pa).weak fun σ H Q ⟨c, G, ρ, R, w⟩ => tg_step R (Same.refl G) w fun rs ρ1 vs G1 H1 R1 s1 _ k1 w1 => by
  obtain ⟨ds, G2, ρ2, s2, R2, k2, w2⟩ := toVs_wp R1 k1 (wpM_bind w1)
  by_cases hl : ds.length ≤ sizeLine
  · rw [if_pos hl] at w2
    refine ⟨by rw [k2.length]; exact hl, fun p hp => ?_⟩
    obtain ⟨R3, k3⟩ := R2.new_own hp k2
    exact w2 _ G2 _ R3 (s1.trans s2) k3
  · rw [if_neg hl] at w2; exact w2.elim⟩
def aStar (f : M Rv) (g : M (List Rv)) : M (List Rv) := do
 let r ← f
 let d ← peek r
 match items d with
 | some ds => do
  let rs ← g
  pure (ds.map Rv.val ++ rs)
 | none => M.fail
theorem da_star {f : M Rv} {g : M (List Rv)} (he : DE X W e f) (hr : DA X W es g) (hs : starEach (.Starred e p :: es) X.env = (true, eval e X.env) :: starEach es X.env := by rfl) : DA X W (.Starred e p :: es) (aStar f g) :=
 ⟨(StX.pa_star he.pe hr.pa hs).weak fun σ H Q ⟨c, G, ρ, R, w⟩ => tg_step R (Same.refl G) w fun r ρ1 v G1 H1 R1 s1 _ k w1 => by
  obtain ⟨d, kd, w2⟩ := peek_wp R1 k (wpM_bind w1)
  have go : ∀ (a : Addr) (xs : List V) (ds : List D), (SqT X.K H1 a xs ∨ SqL X.K H1 a xs) → RpL X.K G1 ds xs → items d = some ds → v = .ref a →
    ∃ p xs, v = V.ref p ∧ (SqT X.K H1 p xs ∨ SqL X.K H1 p xs) ∧ tDA X.K W g σ H1 fun ys H2 => Q (xs ++ ys) H2 := fun a xs ds h1 h2 h3 h4 => by
   rw [h3] at w2
   refine ⟨a, xs, h4, h1, ?_⟩
   exact tg_step R1 s1 w2 fun rs ρ2 vs G2 H2 R2 s2 s12 k2 w3 => w3 (xs ++ vs) G2 H2 R2 s2 (RpRs.append (RpRs.vals (h2.mono s12)) k2)
  cases d with
  | lst ds =>
   obtain ⟨a, xs, h1, h2, h3⟩ := kd.lst R1.gh
   exact go a xs ds (.inr (.inl (.inl h2))) h3 rfl h1
  | tup ds =>
   obtain ⟨a, xs, h1, _, h2, h3⟩ := kd.tup R1.gh
   exact go a xs ds (.inl h2) h3 rfl h1
  | _ => exact w2.elim⟩
end
def CalR (K : PySem.W.Frag) (r : List V → Hp → VK → Prop) (g : List D → Option Rv) : Prop := ∀ {c : Cn} {G H : Hp} {σ : L2.St} {ρ : List S} {vs : List V} {ds : List D} {q : Rv} {Q : VK}, Rst K c G H σ ρ → RhL K c G H ds vs → g ds = some q →
 (∀ z G' H', Rst K c G' H' σ ρ → Same G G' → RpR K c G' H' σ ρ z q → Q z H') → r vs H Q
def eB (g : List D → Option Rv) (ga : M (List Rv)) : M Rv := do
 let rs ← ga
 let ds ← peeks rs
 ofO (g ds)
theorem CalR.or {K : PySem.W.Frag} {r r' : List V → Hp → VK → Prop} {g g' : List D → Option Rv} (h : CalR K r g) (h' : CalR K r' g') : CalR K (fun xs H Q => r xs H Q ∨ r' xs H Q) (fun ds => (g ds).or (g' ds)) := fun {c G H σ ρ vs ds q Q} R kd eq k => by
 have eq : (g ds).or (g' ds) = some q := eq
 cases z : g ds with
 | some q' => rw [z, Option.some_or] at eq; cases eq; exact .inl (h R kd z k)
 | none => rw [z, Option.none_or] at eq; exact .inr (h' R kd eq k)
theorem CallR.or {X : Cx} {f : Value} {r r' : List V → Hp → VK → Prop} (h : CallR X f r) (h' : CallR X f r') : CallR X f (fun xs H Q => r xs H Q ∨ r' xs H Q) := fun pins s σ H xs us Q I rx q => by
 rcases q with q | q
 · exact h pins s σ H xs us Q I rx q
 · exact h' pins s σ H xs us Q I rx q
theorem RhL.one {K : PySem.W.Frag} {c : Cn} {G H : Hp} {d : D} {vs : List V} (h : RhL K c G H [d] vs) : ∃ v, vs = [v] ∧ Rh K c G H d v := by
 obtain ⟨v, r, h1, h2, h3⟩ := h
 cases h3
 exact ⟨v, h1, h2⟩
theorem RhL.two {K : PySem.W.Frag} {c : Cn} {G H : Hp} {d e : D} {vs : List V} (h : RhL K c G H [d, e] vs) : ∃ v w, vs = [v, w] ∧ Rh K c G H d v ∧ Rh K c G H e w := by
 obtain ⟨v, r, h1, h2, h3⟩ := h
 obtain ⟨w, rfl, h4⟩ := h3.one
 exact ⟨v, w, h1, h2, h4⟩
section
variable {X : Cx} {W : WX} {x : Str} {e : Expr} {es : List Expr} {ga : M (List Rv)} {pos p : Pos} {id T : String} {r : List V → Hp → VK → Prop} {g : List D → Option Rv}
theorem tD_call {σ : L2.St} {H : Hp} {Q : VK} (hg : CalR X.K r g) (h : tD X.K W (eB g ga) σ H Q) : tCB r (tDA X.K W ga) σ H Q := by
 obtain ⟨c, G, ρ, R, w⟩ := h
 refine tg_step R (Same.refl G) w fun rs ρ1 vs G1 H1 R1 s1 _ k1 w1 => ?_
 obtain ⟨ds, kd, w2⟩ := peeks_wp R1 k1 (wpM_bind w1)
 obtain ⟨q, eq, w3⟩ := ofO_wp w2
 exact hg R1 kd eq fun z G' H' R' s' kz => w3 z G' H' R' (s1.trans s') kz
theorem de_B (hc : CallR X (.builtin id) r) (hq : CalR X.K r g) (hg : Gl X x) (hm : X.mg x = none) (hv : bootBuiltins x = some (.builtin id)) (ha : DA X W (e :: es) ga) (hn : x ≠ "__name__" := by decide) (hdb : (x == ("__debug__" : Str)) = false := by decide)
  (he : starEach (e :: es) X.env = (false, eval e X.env) :: starEach es X.env := by rfl) (hpl : (backTo pos (starEach es X.env)).any (·.1) = false := by rfl) : DE X W (.Call (.Name x p) (e :: es) [] pos) (eB g ga) :=
 ⟨(pe_callB hc hg hm hv ha.pa hn hdb he hpl).weak fun _ _ _ h => tD_call hq h⟩
theorem de_Ty (hc : CallR X (.type T) r) (hq : CalR X.K r g) (hg : Gl X x) (hm : X.mg x = none) (hv : bootBuiltins x = some (.type T)) (ha : DA X W (e :: es) ga) (hn : x ≠ "__name__" := by decide) (hdb : (x == ("__debug__" : Str)) = false := by decide)
  (he : starEach (e :: es) X.env = (false, eval e X.env) :: starEach es X.env := by rfl) (hpl : (backTo pos (starEach es X.env)).any (·.1) = false := by rfl) : DE X W (.Call (.Name x p) (e :: es) [] pos) (eB g ga) :=
 ⟨(pe_callTy hc hg hm hv ha.pa hn hdb he hpl).weak fun _ _ _ h => tD_call hq h⟩
end
def gLen : List D → Option Rv
 | [.lst xs] => some (.val (.int xs.length))
 | [.tup xs] => some (.val (.int xs.length))
 | [.scr xs] => some (.val (.int xs.length))
 | [.str x] => if x.length ≤ sizeLine then some (.val (.int x.length)) else none
 | _ => none
theorem len_ok {K : PySem.W.Frag} : CalR K (fun xs H Q => ∃ x n, xs = [x] ∧ LenV K x H n ∧ Q (.int n) H) gLen := fun {c G H σ ρ vs ds q Q} R kd eq k => by
 unfold gLen at eq
 split at eq
 · cases eq
   obtain ⟨v, rfl, kv⟩ := kd.one
   obtain ⟨a, xs, rfl, h2, h3⟩ := kv.lst R.gh
   exact ⟨_, xs.length, rfl, .inl ⟨xs, .inl (.inl h2), rfl⟩, k _ G H R (Same.refl G) (by rw [h3.length]; rfl)⟩
 · cases eq
   obtain ⟨v, rfl, kv⟩ := kd.one
   obtain ⟨a, xs, rfl, _, h2, h3⟩ := kv.tup R.gh
   exact ⟨_, xs.length, rfl, .inr ⟨xs, h2, rfl⟩, k _ G H R (Same.refl G) (by rw [h3.length]; rfl)⟩
 · cases eq
   rename_i ns
   obtain ⟨v, rfl, kv⟩ := kd.one
   obtain ⟨a, rfl, h2⟩ := kv.scr R.gh
   exact ⟨_, _, rfl, .inl ⟨_, h2, rfl⟩, k _ G H R (Same.refl G) (by rw [List.length_map]; rfl)⟩
 · split at eq
   · cases eq
     rename_i hl
     obtain ⟨v, rfl, kv⟩ := kd.one
     have e := kv.str
     subst e
     exact ⟨_, _, rfl, ⟨hl, rfl⟩, k _ G H R (Same.refl G) rfl⟩
   · cases eq
 · cases eq
def gInt : List D → Option Rv
 | [.int i] => some (.val (.int i))
 | [.bl b] => some (.val (.int (if b then 1 else 0)))
 | _ => none
theorem int_ok {K : PySem.W.Frag} : CalR K (fun xs H Q => (∃ i, xs = [.int i] ∧ Q (.int i) H) ∨ ∃ k, xs = [.bl k] ∧ Q (.int (if k then 1 else 0)) H) gInt := fun {c G H σ ρ vs ds q Q} R kd eq k => by
 unfold gInt at eq
 split at eq
 · cases eq
   obtain ⟨v, rfl, kv⟩ := kd.one
   have e := kv.int
   subst e
   exact .inl ⟨_, rfl, k _ G H R (Same.refl G) rfl⟩
 · cases eq
   obtain ⟨v, rfl, kv⟩ := kd.one
   have e := kv.bl
   subst e
   exact .inr ⟨_, rfl, k _ G H R (Same.refl G) rfl⟩
 · cases eq
def gMax2 : List D → Option Rv
 | [.int i, .int j] => some (.val (.int (if j > i then j else i)))
 | _ => none
def gMin2 : List D → Option Rv
 | [.int i, .int j] => some (.val (.int (if j < i then j else i)))
 | _ => none
theorem min2_ok {K : PySem.W.Frag} : CalR K (fun xs H Q => ∃ i j, xs = [.int i, .int j] ∧ Q (.int (if j < i then j else i)) H) gMin2 := fun {c G H σ ρ vs ds q Q} R kd eq k => by
 unfold gMin2 at eq
 split at eq
 · cases eq
   obtain ⟨v, w, rfl, kv, kw⟩ := kd.two
   have e := kv.int
   have e2 := kw.int
   subst e e2
   exact ⟨_, _, rfl, k _ G H R (Same.refl G) rfl⟩
 · cases eq
def gList : List D → Option Rv
 | [.lst xs] => some (.own (.lst xs))
 | [.tup xs] => some (.own (.lst xs))
 | _ => none
def gTuple : List D → Option Rv
 | [.lst xs] => some (.val (.tup xs))
 | [.tup xs] => some (.val (.tup xs))
 | _ => none
theorem tuple_ok {K : PySem.W.Frag} : CalR K (fun xs H Q => ∃ p ys, xs = [.ref p] ∧ ((SqL K H p ys ∧ ∀ l, H l = none → Q (.ref l) (upd H l (.tup ys))) ∨ (SqT K H p ys ∧ Q (.ref p) H))) gTuple := fun {c G H σ ρ vs ds q Q} R kd eq k => by
 unfold gTuple at eq
 split at eq
 · cases eq
   obtain ⟨v, rfl, kv⟩ := kd.one
   obtain ⟨a, xs, rfl, h2, h3⟩ := kv.lst R.gh
   refine ⟨a, xs, rfl, .inl ⟨.inl (.inl h2), fun l hl => ?_⟩⟩
   obtain ⟨G', s, R', kk⟩ := R.new_tup hl h3
   exact k _ G' _ R' s kk
 · cases eq
   obtain ⟨v, rfl, kv⟩ := kd.one
   obtain ⟨a, xs, rfl, h1, h2, h3⟩ := kv.tup R.gh
   exact ⟨a, xs, rfl, .inr ⟨h2, k _ G H R (Same.refl G) ⟨a, xs, rfl, h1, h3⟩⟩⟩
 · cases eq
def asInts : List D → Option (List Int)
 | [] => some []
 | .int i :: ds => (asInts ds).map (i :: ·)
 | _ :: _ => none
theorem asInts_map (ns : List Int) : asInts (ns.map D.int) = some ns := by
 induction ns with
 | nil => rfl
 | cons n ns ih => rw [List.map_cons]; show (asInts (ns.map D.int)).map _ = _; rw [ih]; rfl
theorem asInts_eq : ∀ {ds : List D} {ns : List Int}, asInts ds = some ns → ds = ns.map D.int
 | [], _, h => by cases h; rfl
 | d :: ds, ns, h => by
  cases d <;> first
   | (rename_i i
      obtain ⟨ms, h1, h2⟩ := Option.map_eq_some_iff.mp (show (asInts ds).map (i :: ·) = some ns from h)
      subst h2
      rw [asInts_eq h1]; rfl)
   | cases h
def asBools : List D → Option (List Bool)
 | [] => some []
 | .bl i :: ds => (asBools ds).map (i :: ·)
 | _ :: _ => none
theorem asBools_map (ns : List Bool) : asBools (ns.map D.bl) = some ns := by
 induction ns with
 | nil => rfl
 | cons n ns ih => rw [List.map_cons]; show (asBools (ns.map D.bl)).map _ = _; rw [ih]; rfl
def gI1 (f : List Int → Option Rv) : List D → Option Rv
 | [.lst ds] => (asInts ds).bind f
 | _ => none
theorem gI1_ok {K : PySem.W.Frag} {r : List V → Hp → VK → Prop} {f : List Int → Option Rv}
  (h : ∀ {c : Cn} {G H : Hp} {σ : L2.St} {ρ : List S} {a : Addr} {ns : List Int} {q : Rv} {Q : VK}, Rst K c G H σ ρ → SqL K H a (ns.map V.int) → f ns = some q → (∀ z G' H', Rst K c G' H' σ ρ → Same G G' → RpR K c G' H' σ ρ z q → Q z H') → r [.ref a] H Q) : CalR K r (gI1 f) := fun {c G H σ ρ vs ds q Q} R kd eq k => by
 unfold gI1 at eq
 split at eq
 · obtain ⟨ns, e1, e2⟩ := Option.bind_eq_some_iff.mp eq
   have e3 := asInts_eq e1
   subst e3
   obtain ⟨v, rfl, kv⟩ := kd.one
   obtain ⟨a, xs, rfl, h2, h3⟩ := kv.lst R.gh
   have e4 := h3.of_ints
   subst e4
   exact h R (.inl (.inl h2)) e2 k
 · cases eq
def lMax : List Int → Option Int
 | [] => none
 | n :: ns => some (ns.foldl (fun a b => if b > a then b else a) n)
def lMin : List Int → Option Int
 | [] => none
 | n :: ns => some (ns.foldl (fun a b => if b < a then b else a) n)
theorem foldMax (ns : List Int) : ∀ n : Int, (ns.foldl (fun a b => if b > a then b else a) n ∈ n :: ns) ∧ ∀ y ∈ n :: ns, y ≤ ns.foldl (fun a b => if b > a then b else a) n := by
 induction ns with
 | nil => exact fun n => ⟨by simp, fun y hy => by simp at hy; subst hy; exact Int.le_refl _⟩
 | cons m ns ih =>
  intro n
  rw [List.foldl_cons]
  obtain ⟨h1, h2⟩ := ih (if m > n then m else n)
  have ge1 : n ≤ (if m > n then m else n) ∧ m ≤ (if m > n then m else n) := by split <;> omega
  refine ⟨?_, fun y hy => ?_⟩
  · rcases List.mem_cons.mp h1 with e | e
    · rw [e]; split <;> simp
    · exact List.mem_cons_of_mem _ (List.mem_cons_of_mem _ e)
  · have h0 := h2 _ (List.mem_cons_self ..)
    rcases List.mem_cons.mp hy with e | e
    · subst e; omega
    · rcases List.mem_cons.mp e with e | e
      · subst e; omega
      · exact h2 y (List.mem_cons_of_mem _ e)
theorem lMax_spec {ns : List Int} {m : Int} (h : lMax ns = some m) : m ∈ ns ∧ ∀ y ∈ ns, y ≤ m := by
 cases ns with
 | nil => cases h
 | cons n ns => cases h; exact foldMax ns n
def gMaxL : List D → Option Rv := gI1 fun ns => (lMax ns).map fun m => .val (.int m)
def gMinL : List D → Option Rv := gI1 fun ns => (lMin ns).map fun m => .val (.int m)
def gSum : List D → Option Rv := gI1 fun ns => some (.val (.int ns.sum))
theorem maxL_ok {K : PySem.W.Frag} : CalR K (rMax K) gMaxL := gI1_ok fun {c G H σ ρ a ns q Q} R hs eq k => by
 obtain ⟨m, e1, e2⟩ := Option.map_eq_some_iff.mp eq
 subst e2
 obtain ⟨h1, h2⟩ := lMax_spec e1
 refine ⟨a, ns, rfl, hs, List.length_pos_of_mem h1, fun m' hm hle => ?_⟩
 have e : m' = m := Int.le_antisymm (h2 _ hm) (hle _ h1)
 subst e
 exact k _ G H R (Same.refl G) rfl
def sortI (ns : List Int) : List Int := ns.mergeSort (fun a b => decide (a ≤ b))
theorem sortI_perm (ns : List Int) : (sortI ns).Perm ns := List.mergeSort_perm ns _
theorem sortI_sorted (ns : List Int) : (sortI ns).Pairwise (· ≤ ·) := by
 have h := List.pairwise_mergeSort (le := fun a b : Int => decide (a ≤ b)) (fun a b c h1 h2 => by simp at *; omega) (fun a b => by simp; omega) ns
 exact h.imp fun h => by simpa using h
theorem sortI_of {ns ms : List Int} (h : ms.Perm ns) (s : ms.Pairwise (· ≤ ·)) : ms = sortI ns := PySem.W.ksm_same (h.trans (sortI_perm ns).symm) s (sortI_sorted ns)
def gSorted : List D → Option Rv := gI1 fun ns => some (.own (.lst ((sortI ns).map .int)))
theorem sorted_ok {K : PySem.W.Frag} : CalR K (rSortedI K) gSorted := gI1_ok fun {c G H σ ρ a ns q Q} R hs eq k => by
 cases eq
 refine ⟨a, ns, rfl, hs, fun ns' p hp ho hn => ?_⟩
 have e := sortI_of hp ho
 subst e
 obtain ⟨R', kk⟩ := R.new_own hn (RpL.ints (K := K) (G := G) (ns := sortI ns))
 exact k _ G _ R' (Same.refl G) kk
def gB1 (f : List Bool → Option Rv) : List D → Option Rv
 | [.lst ds] => (asBools ds).bind f
 | _ => none
def gAll : List D → Option Rv := gB1 fun ns => some (.val (.bl (ns.all id)))
def gAny : List D → Option Rv := gB1 fun ns => some (.val (.bl (ns.any id)))
def tyNm : D → Option String
 | .non => some "NoneType"
 | .bl _ => some "bool"
 | .int _ => some "int"
 | .str _ => some "str"
 | .lst _ => some "list"
 | .tup _ => some "tuple"
 | .dic _ _ => some "dict"
 | _ => none
def isTab : List (String × String × Bool) :=
 [("int", "int", true), ("bool", "bool", true), ("bool", "int", true), ("list", "list", true), ("tuple", "tuple", true), ("str", "str", true),
  ("int", "bool", false), ("int", "tuple", false), ("int", "list", false), ("int", "str", false),
  ("bool", "tuple", false), ("bool", "list", false), ("bool", "str", false),
  ("NoneType", "int", false), ("NoneType", "bool", false), ("NoneType", "list", false), ("NoneType", "tuple", false), ("NoneType", "str", false),
  ("list", "int", false), ("list", "bool", false), ("list", "tuple", false), ("list", "str", false),
  ("tuple", "int", false), ("tuple", "bool", false), ("tuple", "list", false), ("tuple", "str", false),
  ("str", "int", false), ("str", "bool", false), ("str", "list", false), ("str", "tuple", false)]
def isLook (a t : String) : Option Bool := (isTab.find? fun p => p.1 == a && p.2.1 == t).map fun p => p.2.2
theorem isTab_ok : ∀ p ∈ isTab, kitB p.1 p.2.1 = some p.2.2 := by decide +kernel
theorem isLook_ok {a t : String} {b : Bool} (h : isLook a t = some b) : kitB a t = some b := by
 obtain ⟨p, h1, h2⟩ := Option.map_eq_some_iff.mp h
 have h3 := List.find?_some h1
 have h4 := isTab_ok p (List.mem_of_find?_eq_some h1)
 simp only [Bool.and_eq_true, beq_iff_eq] at h3
 rw [h3.1, h3.2, h2] at h4
 exact h4
def gIsi : List D → Option Rv
 | [d, .ty t] => ((tyNm d).bind fun a => isLook a t).map fun b => .val (.bl b)
 | _ => none
theorem tyX_of {K : PySem.W.Frag} {c : Cn} {G H : Hp} {d : D} {v : V} {n : String} (s : Same G H) (h : Rh K c G H d v) (e : tyNm d = some n) : TyX K H v (.type n) := by
 cases d with
 | non => cases e; rw [h.non]; exact .base .non
 | bl k => cases e; rw [h.bl]; exact .base (.bl k)
 | int i => cases e; rw [h.int]; exact .base (.int i)
 | str i => cases e; rw [h.str]; exact .base (.str i)
 | lst ds => cases e; obtain ⟨a, xs, rfl, h2, _⟩ := h.lst s; exact .base (.lst h2)
 | tup ds =>
  cases e
  obtain ⟨a, xs, rfl, _, h2, _⟩ := h.tup s
  rcases h2 with (h2 | ⟨o, h2⟩) | ⟨o, its, n, h2, h3, _⟩
  · exact .base (.tup h2)
  · exact .fTuple h2
  · exact .kTuple h2 h3
 | dic ks vs => cases e; obtain ⟨a, xs, rfl, h2, _⟩ := h.dic s; exact .base (.dK h2)
 | _ => cases e
theorem isi_ok {K : PySem.W.Frag} : CalR K (rIsi K) gIsi := fun {c G H σ ρ vs ds q Q} R kd eq k => by
 unfold gIsi at eq
 split at eq
 · rename_i d t
   obtain ⟨b, e1, e2⟩ := Option.map_eq_some_iff.mp eq
   obtain ⟨a, e3, e4⟩ := Option.bind_eq_some_iff.mp e1
   subst e2
   obtain ⟨v, w, rfl, kv, kw⟩ := kd.two
   have ew := kw.ty
   subst ew
   exact ⟨v, .ty t, .type a, .type t, b, rfl, .ty t, tyX_of R.gh kv e3, kit_ty (isLook_ok e4), k _ G H R (Same.refl G) rfl⟩
 · cases eq
theorem atI_map {α β : Type} (f : α → β) (xs : List α) (i : Int) : atI (xs.map f) i = (atI xs i).map f := by
 unfold atI
 rw [List.length_map]
 cases ixN xs.length i with
 | none => rfl
 | some j => show (xs.map f)[j]? = (xs[j]?).map f; rw [List.getElem?_map]
theorem RpL.at {K : PySem.W.Frag} {G : Hp} {ds : List D} {xs : List V} {i : Int} {d : D} (h : RpL K G ds xs) (e : atI ds i = some d) : ∃ v, atI xs i = some v ∧ Rp K G d v := by
 unfold atI at e ⊢
 rw [h.length]
 obtain ⟨j, e1, e2⟩ := Option.bind_eq_some_iff.mp e
 obtain ⟨v, h1, h2⟩ := h.get e2
 exact ⟨v, by rw [e1]; exact h1, h2⟩
def dIx : D → D → Option Rv
 | .lst xs, .int i => (atI xs i).map .val
 | .tup xs, .int i => (atI xs i).map .val
 | .scr ns, .int i => (atI ns i).map fun n => .val (.int n)
 | .str z, .int i => if z.length ≤ sizeLine then (atI z.cps.toList i).map fun c => .val (.str ⟨#[c]⟩) else none
 | _, _ => none
theorem ix_ok {K : PySem.W.Frag} : BinR K (rIx K) dIx := fun {c G H σ ρ v w d e q Q} R kd ke eq k => by
 unfold dIx at eq
 split at eq
 · rename_i ds i
   obtain ⟨d, e1, e2⟩ := Option.map_eq_some_iff.mp eq
   obtain ⟨a, xs, rfl, h2, h3⟩ := kd.lst R.gh
   obtain ⟨u, h4, h5⟩ := h3.at e1
   subst e2
   exact .inl ⟨a, xs, i, u, rfl, ke.int, .inl (.inl h2), h4, k _ G H R (Same.refl G) h5⟩
 · rename_i ds i
   obtain ⟨d, e1, e2⟩ := Option.map_eq_some_iff.mp eq
   obtain ⟨a, xs, rfl, _, h2, h3⟩ := kd.tup R.gh
   obtain ⟨u, h4, h5⟩ := h3.at e1
   subst e2
   exact .inr (.inl ⟨a, xs, i, u, rfl, ke.int, h2, h4, k _ G H R (Same.refl G) h5⟩)
 · rename_i ns i
   obtain ⟨n, e1, e2⟩ := Option.map_eq_some_iff.mp eq
   obtain ⟨a, rfl, h2⟩ := kd.scr R.gh
   subst e2
   exact .inl ⟨a, _, i, .int n, rfl, ke.int, h2, by rw [atI_map, e1]; rfl, k _ G H R (Same.refl G) rfl⟩
 · rename_i z i
   split at eq
   · rename_i hl
     obtain ⟨n, e1, e2⟩ := Option.map_eq_some_iff.mp eq
     subst e2
     exact .inr (.inr ⟨z, i, n, kd.str, ke.int, hl, e1, k _ G H R (Same.refl G) rfl⟩)
   · cases eq
 · cases eq
section
variable {X : Cx} {W : WX} {a b e : Expr} {es : List Expr} {fa fb : M Rv} {pos p p2 : Pos}
abbrev eIx := mBin dIx
theorem de_ix (ha : DE X W a fa) (hb : DE X W b fb) (hs : PlainIx b := by exact fun _ _ => rfl) : DE X W (.Subscript a b pos) (eIx fa fb) :=
 ⟨(pe_ix ix_seq ha.pe hb.pe hs).weak fun _ _ _ h => tD_bin ix_ok h⟩
structure DO (X : Cx) (W : WX) (e : Option Expr) (f : M (Option Int)) : Prop where
 po : PO X e (tg X.K W (fun _ _ _ _ _ (b a : Option Int) => b = a) f)
theorem _root_.L2.PO.weak {X : Cx} {e : Option Expr} {t t' : TO} (h : PO X e t) (w : ∀ σ H Q, t' σ H Q → t σ H Q) : PO X e t' := ⟨fun pins s σ H Q I q => h.run pins s σ H Q I (w σ H Q q)⟩
def oNo : M (Option Int) := pure none
def oSome (f : M Rv) : M (Option Int) := do
 let r ← f
 let d ← peek r
 match d with
 | .int i => pure (some i)
 | _ => M.fail
theorem do_no : DO X W none oNo := ⟨po_none.weak fun σ H Q ⟨c, G, ρ, R, w⟩ => w none G H R (Same.refl G) rfl⟩
theorem do_some (ha : DE X W a fa) : DO X W (some a) (oSome fa) := ⟨(po_some ha.pe).weak fun σ H Q ⟨c, G, ρ, R, w⟩ => tg_step R (Same.refl G) w fun x ρ1 v G1 H1 R1 s1 _ k1 w1 => by
  obtain ⟨d, kd, w2⟩ := peek_wp R1 k1 (wpM_bind w1)
  cases d <;> first
   | exact w2.elim
   | (rename_i i; exact ⟨i, kd.int, w2 (some i) G1 H1 R1 s1 rfl⟩)⟩
def cutD {α : Type} (xs : List α) (lo hi : Option Int) : List α := (xs.drop (HT.sIx xs.length 0 lo)).take (HT.sIx xs.length xs.length hi - HT.sIx xs.length 0 lo)
def dSl (d : D) (lo hi : Option Int) : Option Rv := match d with
 | .lst xs => some (.own (.lst (cutD xs lo hi)))
 | .tup xs => some (.val (.tup (cutD xs lo hi)))
 | _ => none
def eSl (fa : M Rv) (fl fh : M (Option Int)) : M Rv := do
 let x ← fa
 let l ← fl
 let h ← fh
 let d ← peek (settle x)
 ofO (dSl d l h)
theorem RpL.cut {K : PySem.W.Frag} {G : Hp} {ds : List D} {xs : List V} (h : RpL K G ds xs) (lo hi : Option Int) : RpL K G (cutD ds lo hi) (cutV xs lo hi) := by
 unfold cutD cutV
 rw [h.length]
 exact (h.drop _).take _
theorem SlR.or {r r' : V → Option Int → Option Int → Hp → VK → Prop} (h : SlR X r) (h' : SlR X r') : SlR X (fun x l u H Q => r x l u H Q ∨ r' x l u H Q) := by
 intro pins s σ H x v vl vu lo hi sl Q I rx hs pl pu q
 rcases q with q | q
 · exact h pins s σ H x v vl vu lo hi sl Q I rx hs pl pu q
 · exact h' pins s σ H x v vl vu lo hi sl Q I rx hs pl pu q
theorem de_sl {lo hi : Option Expr} {fl fh : M (Option Int)} (ha : DE X W a fa) (hl : DO X W lo fl) (hh : DO X W hi fh) : DE X W (.Subscript a (.Slice lo hi none p2) pos) (eSl fa fl fh) :=
 ⟨(pe_slice (SlR.or sl_list sl_tupA) ha.pe hl.po hh.po).weak fun σ H Q ⟨c, G, ρ, R, w⟩ => tg_step R (Same.refl G) w fun x ρ1 v G1 H1 R1 s1 _ k1 w1 => by
  obtain ⟨G1', s1', R1', k1'⟩ := settle_ok R1 k1
  refine tg_step R1' (s1.trans s1') w1 fun l ρ2 l' G2 H2 R2 s2 s12 k2 w2 => ?_
  obtain rfl : l' = l := k2
  refine tg_step R2 s2 w2 fun h ρ3 h' G3 H3 R3 s3 s23 k3 w3 => ?_
  obtain rfl : h' = h := k3
  obtain ⟨d, kd, w4⟩ := peek_wp R3 (RpRs.one ((k1'.mono s12).mono s23)) (wpM_bind w3)
  obtain ⟨q, eq, w5⟩ := ofO_wp w4
  unfold dSl at eq
  split at eq
  · cases eq
    obtain ⟨a, xs, rfl, h2, h3⟩ := kd.lst R3.gh
    refine .inl ⟨a, xs, rfl, .inl (.inl h2), fun p hp => ?_⟩
    obtain ⟨R', kk⟩ := R3.new_own hp (h3.cut l' h')
    exact w5 _ G3 _ R' s3 kk
  · cases eq
    obtain ⟨a, xs, rfl, hg, h2, h3⟩ := kd.tup R3.gh
    refine .inr ⟨a, xs, rfl, h2, fun ⟨z1, z2⟩ => ?_, fun z p hp => ?_⟩
    · refine w5 _ G3 H3 R3 s3 ⟨a, xs, rfl, hg, ?_⟩
      have e := h3.cut l' h'
      unfold cutV at e
      rw [z1, z2, List.drop_zero, Nat.sub_zero, List.take_length] at e
      exact e
    · obtain ⟨G', s', R', kk⟩ := R3.new_tup hp (h3.cut l' h')
      exact w5 _ G' _ R' (s3.trans s') kk
  · cases eq⟩
end
end Dl
namespace Dl
open PySem L2
inductive Os where
 | nx (ρ : List S) | rt (r : Rv) (ρ : List S) | bk (ρ : List S) | ct (ρ : List S) | ex (e : Xn) (ρ : List S)
abbrev MS : Type := List S → Option Os
def Po (K : PySem.W.Frag) (c : Cn) (W : WX) (G : Hp) (Dn : Ends) : Os → Prop
 | .nx ρ' => ∀ σ' G' H', Rst K c G' H' σ' ρ' → Same G G' → Dn.nx σ' H'
 | .bk ρ' => ∀ σ' G' H', Rst K c G' H' σ' ρ' → Same G G' → Dn.bk σ' H'
 | .ct ρ' => ∀ σ' G' H', Rst K c G' H' σ' ρ' → Same G G' → Dn.ct σ' H'
 | .rt r ρ' => ∀ v σ' G' H', Rst K c G' H' σ' ρ' → Same G G' → RpR K c G' H' σ' ρ' v r → Dn.rt v H'
 | .ex e ρ' => ∀ cls d σ' G' H', Rst K c G' H' σ' ρ' → Same G G' → XAt K G' H' e cls d → W cls d σ' H'
theorem Po.mono {K : PySem.W.Frag} {c : Cn} {W : WX} {G G1 : Hp} {Dn : Ends} {o : Os} (s : Same G G1) (h : Po K c W G Dn o) : Po K c W G1 Dn o := by
 cases o with
 | nx ρ => exact fun σ' G' H' R s' => h σ' G' H' R (s.trans s')
 | bk ρ => exact fun σ' G' H' R s' => h σ' G' H' R (s.trans s')
 | ct ρ => exact fun σ' G' H' R s' => h σ' G' H' R (s.trans s')
 | rt r ρ => exact fun v σ' G' H' R s' k => h v σ' G' H' R (s.trans s') k
 | ex e ρ => exact fun cls d σ' G' H' R s' x => h cls d σ' G' H' R (s.trans s') x
def tS (K : PySem.W.Frag) (W : WX) (np : Nat) (f : MS) : TS := fun Dn σ H => ∃ c G ρ o, c.s0.length = np ∧ Rst K c G H σ ρ ∧ f ρ = some o ∧ Po K c W G Dn o
structure DS (X : Cx) (W : WX) (np : Nat) (st : Stmt) (f : MS) : Prop where
 ps : PS X st (tS X.K W np f)
structure DL (X : Cx) (W : WX) (np : Nat) (st : List Stmt) (f : MS) : Prop where
 pss : PSs X st (tS X.K W np f)
def thenS {α : Type} (f : M α) (k : α → MS) : MS := fun ρ => match f ρ with
 | some (.ok a ρ') => k a ρ'
 | some (.ex e ρ') => some (.ex e ρ')
 | none => none
theorem EXk.of_po {K : PySem.W.Frag} {c : Cn} {W : WX} {σ : L2.St} {G : Hp} {Dn : Ends} {e : Xn} {ρ : List S} (h : Po K c W G Dn (.ex e ρ)) : EXk K c W σ G e ρ := fun cls d G' H' R s x => h cls d σ G' H' R s x
theorem tS_step {α β : Type} {K : PySem.W.Frag} {W : WX} {rep : Cn → Hp → Hp → L2.St → List S → β → α → Prop} {c : Cn} {G H : Hp} {σ : L2.St} {ρ : List S} {f : M α} {k : α → MS} {Dn : Ends} {o : Os} {Q : β → Hp → Prop}
  (R : Rst K c G H σ ρ) (h : thenS f k ρ = some o) (po : Po K c W G Dn o)
  (next : ∀ a ρ1 b G1 H1, Rst K c G1 H1 σ ρ1 → Same G G1 → rep c G1 H1 σ ρ1 b a → k a ρ1 = some o → Po K c W G1 Dn o → Q b H1) : tg K W rep f σ H Q := by
 refine ⟨c, G, ρ, R, ?_⟩
 unfold thenS at h
 revert h
 cases f ρ with
 | none => exact fun h => nomatch h
 | some ot => cases ot with
  | ok a ρ1 => exact fun h b G1 H1 R1 s1 r => next a ρ1 b G1 H1 R1 s1 r h (po.mono s1)
  | ex e ρ1 => exact fun h => by cases h; exact EXk.of_po po
section
variable {X : Cx} {W : WX} {np : Nat} {a b e : Expr} {es : List Expr} {fa fb : M Rv} {ga : M Bool} {pos p p2 : Pos} {st : Stmt} {rest sts sts' : List Stmt} {f g : MS}
def sNil : MS := fun ρ => some (.nx ρ)
def sSeq (f g : MS) : MS := fun ρ => match f ρ with
 | some (.nx ρ') => g ρ'
 | o => o
theorem dl_nil : DL X W np [] sNil := ⟨pss_nil.weak fun Dn σ H ⟨c, G, ρ, o, hl, R, h, po⟩ => by cases h; exact po σ G H R (Same.refl G)⟩
theorem dl_one (h : DS X W np st f) : DL X W np [st] f := ⟨pss_one h.ps⟩
theorem dl_cons (h1 : DS X W np st f) (h2 : DL X W np rest g) : DL X W np (st :: rest) (sSeq f g) := ⟨(pss_cons h1.ps h2.pss).weak fun Dn σ H ⟨c, G, ρ, o, hl, R, h, po⟩ => by
 unfold sSeq at h
 show tS X.K W np f { Dn with nx := tS X.K W np g Dn } σ H
 cases e : f ρ with
 | none => rw [e] at h; cases h
 | some o1 =>
  rw [e] at h
  refine ⟨c, G, ρ, o1, hl, R, e, ?_⟩
  cases o1 with
  | nx ρ1 => exact fun σ' G' H' R' s' => ⟨c, G', ρ1, o, hl, R', h, po.mono s'⟩
  | _ => cases h; exact po⟩
def sPass : MS := sNil
def sBreak : MS := fun ρ => some (.bk ρ)
def sCont : MS := fun ρ => some (.ct ρ)
def sNever : MS := fun _ => none
theorem dl_never : DL X W np sts sNever := ⟨pss_never.weak fun Dn σ H ⟨c, G, ρ, o, hl, R, h, po⟩ => nomatch h⟩
def sExpr (fa : M Rv) : MS := thenS fa fun _ => sNil
theorem ds_expr (ha : DE X W e fa) (hs : swapsWith e none pos.line X.env = pure false := by rfl) : DS X W np (.Expr e pos) (sExpr fa) :=
 ⟨(ps_expr ha.pe hs).weak fun Dn σ H ⟨c, G, ρ, o, hl, R, h, po⟩ => tS_step R h po fun r ρ1 v G1 H1 R1 s1 _ h1 po1 => by cases h1; exact po1 σ G1 H1 R1 (Same.refl G1)⟩
def retV (r : Rv) : MS := fun ρ => match r with
 | .ali i => match ρ[i]? with
  | some (.val d) => some (.rt (.val d) ρ)
  | some (.own d) => some (.rt (.own d) (ρ.set i .no))
  | _ => none
 | r => some (.rt r ρ)
def sRet (fa : M Rv) : MS := thenS fa retV
def sRetN : MS := fun ρ => some (.rt (.val .non) ρ)
end
section
variable {K : PySem.W.Frag} {c : Cn} {G G' H H' : Hp} {σ : L2.St} {ρ ρ' : List S} {v : V} {d : D} {r : Rv} {rs : List Rv} {vs : List V} {i : Nat}
theorem set_cases {α : Type} {l : List α} {i j : Nat} {x y : α} (h : (l.set i x)[j]? = some y) : (j = i ∧ i < l.length ∧ y = x) ∨ (j ≠ i ∧ l[j]? = some y) := by
 by_cases hj : j = i
 · subst hj
   have hl : j < l.length := by
    have := (List.getElem?_eq_some_iff.mp h).1
    rwa [List.length_set] at this
   rw [List.getElem?_set_self hl] at h
   cases h
   exact .inl ⟨rfl, hl, rfl⟩
 · rw [List.getElem?_set_ne (Ne.symm hj)] at h
   exact .inr ⟨hj, h⟩
theorem Rst.set_no (R : Rst K c G H σ ρ) (i : Nat) : Rst K c G H σ (ρ.set i .no) where
 fh := R.fh
 gh := R.gh
 fg := R.fg
 len := by rw [List.length_set, R.len]
 val := fun j d h => by
  rcases set_cases h with ⟨_, _, e⟩ | ⟨_, h⟩
  · cases e
  · exact R.val j d h
 own := fun j d h => by
  rcases set_cases h with ⟨_, _, e⟩ | ⟨_, h⟩
  · cases e
  · exact R.own j d h
 ne := fun j k d e a h1 h2 => by
  rcases set_cases h1 with ⟨_, _, e⟩ | ⟨_, h1⟩
  · cases e
  · rcases set_cases h2 with ⟨_, _, e⟩ | ⟨_, h2⟩
    · cases e
    · exact R.ne j k d e a h1 h2
 par := fun j d h => by
  rcases set_cases h with ⟨_, _, e⟩ | ⟨_, h⟩
  · cases e
  · exact R.par j d h
theorem Rst.take_own (R : Rst K c G H σ ρ) (h : ρ[i]? = some (.own d)) (hv : σ[i]? = some (some v)) : RpR K c G H σ (ρ.set i .no) v (.own d) := by
 obtain ⟨a, h1, h2, h3, h4⟩ := R.own i d h
 rw [hv] at h1; cases h1
 refine ⟨a, rfl, h2, h3, h4, fun j e q z => ?_⟩
 rcases set_cases q with ⟨_, _, e⟩ | ⟨hj, q⟩
 · cases e
 · exact hj (R.ne j i e d a q h z hv)
theorem Rst.set_own (R : Rst K c G H σ ρ) (hr : RpR K c G H σ ρ v (.own d)) (hi : c.s0.length ≤ i) : Rst K c G H (σ.set i (some v)) (ρ.set i (.own d)) := by
 obtain ⟨a, rfl, h2, h3, h4, h5⟩ := hr
 have sig : ∀ {j : Nat} {x : Option V}, (σ.set i (some (V.ref a)))[j]? = some x → (j = i ∧ x = some (V.ref a)) ∨ (j ≠ i ∧ σ[j]? = some x) := fun {j x} q => by
  rcases set_cases q with ⟨q1, _, q2⟩ | q
  · exact .inl ⟨q1, q2⟩
  · exact .inr q
 refine ⟨R.fh, R.gh, R.fg, by rw [List.length_set, List.length_set, R.len], fun j e h => ?_, fun j e h => ?_, fun j k e f b q1 q2 r1 r2 => ?_, fun j e h hl => ?_⟩
 · rcases set_cases h with ⟨_, _, e⟩ | ⟨hj, h⟩
   · cases e
   · rw [List.getElem?_set_ne (Ne.symm hj)]; exact R.val j e h
 · rcases set_cases h with ⟨hj, hl, e⟩ | ⟨hj, h⟩
   · cases e
     subst hj
     exact ⟨a, by rw [List.getElem?_set_self (R.len ▸ hl)], h2, h3, h4⟩
   · rw [List.getElem?_set_ne (Ne.symm hj)]; exact R.own j e h
 · rcases set_cases q1 with ⟨hj, hl, e1⟩ | ⟨hj, p1⟩
   · rcases set_cases q2 with ⟨hk, hl2, e2⟩ | ⟨hk, p2⟩
     · rw [hj, hk]
     · exfalso
       subst hj
       rw [List.getElem?_set_self (R.len ▸ hl)] at r1; cases r1
       rw [List.getElem?_set_ne (Ne.symm hk)] at r2
       exact h5 k f p2 r2
   · rcases set_cases q2 with ⟨hk, hl2, e2⟩ | ⟨hk, p2⟩
     · exfalso
       subst hk
       rw [List.getElem?_set_self (R.len ▸ hl2)] at r2; cases r2
       rw [List.getElem?_set_ne (Ne.symm hj)] at r1
       exact h5 j e p1 r1
     · rw [List.getElem?_set_ne (Ne.symm hj)] at r1
       rw [List.getElem?_set_ne (Ne.symm hk)] at r2
       exact R.ne j k e f b p1 p2 r1 r2
 · rcases set_cases h with ⟨hj, hl2, e1⟩ | ⟨hj, h⟩
   · omega
   · rw [List.getElem?_set_ne (Ne.symm hj)]; exact R.par j e h hl
end
section
variable {X : Cx} {W : WX} {np : Nat} {a b e : Expr} {es : List Expr} {fa fb : M Rv} {ga : M Bool} {pos p p2 : Pos} {st : Stmt} {rest sts sts' : List Stmt} {f g : MS}
theorem ds_ret (ha : DE X W e fa) : DS X W np (.Return (some e) pos) (sRet fa) :=
 ⟨(ps_ret ha.pe).weak fun Dn σ H ⟨c, G, ρ, o, hl, R, h, po⟩ => tS_step R h po fun r ρ1 v G1 H1 R1 s1 k h1 po1 => by
  unfold retV at h1
  cases r with
  | val d => cases h1; exact po1 v σ G1 H1 R1 (Same.refl G1) k
  | own d => cases h1; exact po1 v σ G1 H1 R1 (Same.refl G1) k
  | ali i =>
   have hv : σ[i]? = some (some v) := k
   dsimp only at h1
   cases q : ρ1[i]? with
   | none => rw [q] at h1; cases h1
   | some s =>
    rw [q] at h1
    cases s with
    | no => cases h1
    | val d =>
     cases h1
     obtain ⟨w, e1, e2⟩ := R1.val i d q
     rw [hv] at e1; cases e1
     exact po1 v σ G1 H1 R1 (Same.refl G1) e2
    | own d =>
     cases h1
     exact po1 v σ G1 H1 (R1.set_no i) (Same.refl G1) (R1.take_own q hv)⟩
def setV (np i : Nat) (r : Rv) : MS := fun ρ => match r with
 | .val d => some (.nx (ρ.set i (.val d)))
 | .own d => if i < np then some (.nx (ρ.set i (.val d))) else some (.nx (ρ.set i (.own d)))
 | .ali j => match ρ[j]? with
  | some (.val d) => some (.nx (ρ.set i (.val d)))
  | some (.own d) => some (.nx ((ρ.set j (.val d)).set i (.val d)))
  | _ => none
def sSet (np i : Nat) (fa : M Rv) : MS := thenS fa (setV np i)
theorem tS_set (i : Nat) {K : PySem.W.Frag} {Dn : Ends} {σ : L2.St} {H : Hp} (h : tS K W np (sSet np i fa) Dn σ H) : tD K W fa σ H (fun v H1 => Dn.nx (σ.set i (some v)) H1) :=
 let ⟨c, G, ρ, o, hl, R, h, po⟩ := h
 tS_step R h po fun r ρ1 v G1 H1 R1 s1 k h1 po1 => by
  show Dn.nx (σ.set i (some v)) H1
  unfold setV at h1
  cases r with
  | val d => cases h1; exact po1 _ G1 H1 (R1.set_val i k) (Same.refl G1)
  | own d =>
   dsimp only at h1
   by_cases hn : i < np
   · rw [if_pos hn] at h1
     cases h1
     obtain ⟨G2, s2, R2, k2⟩ := R1.freeze_new k
     exact po1 _ G2 H1 (R2.set_val i k2) s2
   · rw [if_neg hn] at h1
     cases h1
     exact po1 _ G1 H1 (R1.set_own k (by omega)) (Same.refl G1)
  | ali j =>
   have hv : σ[j]? = some (some v) := k
   dsimp only at h1
   cases q : ρ1[j]? with
   | none => rw [q] at h1; cases h1
   | some s =>
    rw [q] at h1
    cases s with
    | no => cases h1
    | val d =>
     cases h1
     obtain ⟨w, e1, e2⟩ := R1.val j d q
     rw [hv] at e1; cases e1
     exact po1 _ G1 H1 (R1.set_val i e2) (Same.refl G1)
    | own d =>
     cases h1
     obtain ⟨w, G2, e1, s2, R2, e2⟩ := R1.freeze q
     rw [hv] at e1; cases e1
     exact po1 _ G2 H1 (R2.set_val i e2) s2
theorem ds_set (i : Nat) {x : Str} {pos' : Pos} (hN : X.N.Nodup) (ha : DE X W e fa) (hi : X.N[i]? = some x := by rfl) (hx : Loc X.env.scope x := by first | exact Or.inl rfl | exact Or.inr rfl) (hs : swapsWith e (some (.Name x pos')) pos.line X.env = pure false := by rfl)
  (hf : X.fn x = true ∨ X.env.scope.names.lookup x = some .local := by first | exact .inl rfl | exact .inr rfl | assumption) : DS X W np (.Assign [.Name x pos'] e pos) (sSet np i fa) :=
 ⟨(ps_set hN hi hx ha.pe hs hf).weak fun Dn σ H h => tS_set i h⟩
def sIf (ga : M Bool) (f g : MS) : MS := thenS ga fun b => if b = true then f else g
theorem ds_if {cc : Expr} (hc : DT X W cc ga) (h1 : DL X W np sts f) (h2 : DL X W np sts' g) : DS X W np (.If cc sts sts' pos) (sIf ga f g) :=
 ⟨(ps_if hc.pt h1.pss h2.pss).weak fun Dn σ H ⟨c, G, ρ, o, hl, R, h, po⟩ => tS_step R h po fun r ρ1 v G1 H1 R1 s1 k h1 po1 => by
  obtain rfl : v = r := k
  cases v with
  | true => rw [if_pos rfl] at h1 ⊢; exact ⟨c, G1, ρ1, o, hl, R1, h1, po1⟩
  | false => rw [if_neg Bool.false_ne_true] at h1 ⊢; exact ⟨c, G1, ρ1, o, hl, R1, h1, po1⟩⟩
def Out (ts : List Nat) (σ σ' : L2.St) : Prop := σ'.length = σ.length ∧ ∀ j, j ∉ ts → σ'[j]? = σ[j]?
theorem Out.refl {ts : List Nat} (σ : L2.St) : Out ts σ σ := ⟨rfl, fun _ _ => rfl⟩
def tDG (K : PySem.W.Frag) (ts : List Nat) (g : D → List S → Option (List S)) : TG := fun v σ H Q => ∃ c G ρ d ρ', Rst K c G H σ ρ ∧ Rp K G d v ∧ g d ρ = some ρ' ∧ ∀ σ', Rst K c G H σ' ρ' → Out ts σ σ' → Q σ' H
structure DG (X : Cx) (tg : Expr) (ts : List Nat) (g : D → List S → Option (List S)) : Prop where
 pg : PG X tg (tDG X.K ts g)
def tDGs (K : PySem.W.Frag) (ts : List Nat) (g : List D → List S → Option (List S)) : TGs := fun vs σ H Q => ∃ c G ρ ds ρ', Rst K c G H σ ρ ∧ RpL K G ds vs ∧ g ds ρ = some ρ' ∧ ∀ σ', Rst K c G H σ' ρ' → Out ts σ σ' → Q σ' H
structure DGs (X : Cx) (es : List Expr) (ts : List Nat) (g : List D → List S → Option (List S)) : Prop where
 pgs : PGs X es (tDGs X.K ts g)
theorem _root_.L2.PG.weak {tg : Expr} {t t' : TG} (h : PG X tg t) (w : ∀ v σ H Q, t' v σ H Q → t v σ H Q) : PG X tg t' := ⟨fun pins s σ H v u Q I r q => h.run pins s σ H v u Q I r (w v σ H Q q)⟩
theorem _root_.L2.PGs.weak {ts : List Expr} {t t' : TGs} (h : PGs X ts t) (w : ∀ v σ H Q, t' v σ H Q → t v σ H Q) : PGs X ts t' := ⟨fun pins s σ H v u Q I r q => h.run pins s σ H v u Q I r (w v σ H Q q)⟩
def gN (i : Nat) : D → List S → Option (List S) := fun d ρ => some (ρ.set i (.val d))
theorem dg_name (i : Nat) {x : Str} (hN : X.N.Nodup) (hi : X.N[i]? = some x := by rfl) (hx : Loc X.env.scope x := by first | exact Or.inl rfl | exact Or.inr rfl)
  (hf : X.fn x = true ∨ X.env.scope.names.lookup x = some .local := by first | exact .inl rfl | exact .inr rfl | assumption) : DG X (.Name x pos) [i] (gN i) :=
 ⟨(pg_name hN hi hx hf).weak fun v σ H Q ⟨c, G, ρ, d, ρ', R, k, e, h⟩ => by
  cases e
  exact h _ (R.set_val i k) ⟨by rw [List.length_set], fun j hj => by rw [List.getElem?_set_ne (fun z => hj (by simp [z]))]⟩⟩
def gsNil : List D → List S → Option (List S)
 | [], ρ => some ρ
 | _ :: _, _ => none
def gsCons (g : D → List S → Option (List S)) (gs : List D → List S → Option (List S)) : List D → List S → Option (List S)
 | [], _ => none
 | d :: ds, ρ => (g d ρ).bind (gs ds)
theorem dgs_nil : DGs X [] [] gsNil := ⟨pgs_nil.weak fun vs σ H Q ⟨c, G, ρ, ds, ρ', R, k, e, h⟩ => by
 cases ds with
 | nil => cases e; cases k; exact ⟨rfl, h σ R (Out.refl σ)⟩
 | cons => cases e⟩
theorem dgs_cons {t : Expr} {es : List Expr} {t1 t2 : List Nat} {g : D → List S → Option (List S)} {gs : List D → List S → Option (List S)} (h1 : DG X t t1 g) (h2 : DGs X es t2 gs)
  (hs : (assignEach (t :: es) X.env).map (·.2) = assign t X.env :: (assignEach es X.env).map (·.2) := by rfl) : DGs X (t :: es) (t1 ++ t2) (gsCons g gs) :=
 ⟨(pgs_cons h1.pg h2.pgs hs).weak fun vs σ H Q ⟨c, G, ρ, ds, ρ', R, k, e, h⟩ => by
  cases ds with
  | nil => cases e
  | cons d ds =>
   obtain ⟨v, r, rfl, k1, k2⟩ := k
   obtain ⟨ρ1, e1, e2⟩ := Option.bind_eq_some_iff.mp (show (g d ρ).bind (gs ds) = some ρ' from e)
   exact ⟨v, r, rfl, c, G, ρ, d, ρ1, R, k1, e1, fun σ1 R1 o1 => ⟨c, G, ρ1, ds, ρ', R1, k2, e2, fun σ2 R2 o2 => h σ2 R2 ⟨o2.1.trans o1.1, fun j hj => by
    rw [o2.2 j (fun z => hj (List.mem_append_right _ z)), o1.2 j (fun z => hj (List.mem_append_left _ z))]⟩⟩⟩⟩
def gT (n : Nat) (gs : List D → List S → Option (List S)) : D → List S → Option (List S)
 | .tup ds, ρ => if ds.length = n then gs ds ρ else none
 | _, _ => none
theorem dg_tup {es : List Expr} {t : List Nat} {k n : Nat} {gs : List D → List S → Option (List S)} (hc : X.calm = true) (h : DGs X es t gs) (hn : (assignEach es X.env).length = n := by rfl) (hst : (assignEach es X.env).findIdx? (·.1) = none := by rfl) : DG X (.Tuple es k pos) t (gT n gs) :=
 ⟨(pg_tup hc h.pgs hn hst).weak fun v σ H Q ⟨c, G, ρ, d, ρ', R, kd, e, h⟩ => by
  cases d <;> first
   | cases e
   | (rename_i ds
      have e : (if ds.length = n then gs ds ρ else none) = some ρ' := e
      obtain ⟨a, xs, rfl, h2, h3⟩ := kd
      split at e
      · rename_i hl
        exact ⟨a, xs, rfl, Same.seqt R.gh h2, by rw [h3.length, hl], c, G, ρ, ds, ρ', R, h3, e, h⟩
      · cases e)⟩
def asgV (g : D → List S → Option (List S)) (r : Rv) : MS := thenS (toV r) fun d ρ => (g d ρ).map .nx
def sAsg (g : D → List S → Option (List S)) (fa : M Rv) : MS := thenS fa (asgV g)
theorem thenS_wp {α : Type} {f : M α} {k : α → MS} {ρ : List S} {o : Os} (h : thenS f k ρ = some o) : wpM (f ρ) (fun a ρ' => k a ρ' = some o) (fun e ρ' => o = .ex e ρ') := by
 unfold thenS at h
 revert h
 cases f ρ with
 | none => exact fun h => nomatch h
 | some ot => cases ot with
  | ok a ρ1 => exact fun h => h
  | ex e ρ1 => exact fun h => (Option.some.inj h).symm
end
structure Walks (K : PySem.W.Frag) (G0 : Hp) (J : It) (ds : List D) : Prop where
 go : ∀ {c : Cn} {G H : Hp} {σ : L2.St} {ρ : List S} {i : Nat}, Rst K c G H σ ρ → Same G0 G → i < ds.length → J.go i H
 yld : ∀ {c : Cn} {G H H' : Hp} {σ : L2.St} {ρ : List S} {i : Nat} {x : V}, Rst K c G H σ ρ → Same G0 G → J.yld i H x H' → i < ds.length → ∃ d G', ds[i]? = some d ∧ Rst K c G' H' σ ρ ∧ Same G G' ∧ Rp K G' d x
 stop : ∀ {c : Cn} {G H : Hp} {σ : L2.St} {ρ : List S}, Rst K c G H σ ρ → Same G0 G → J.stop ds.length H
 sz : ds.length ≤ sizeLine
def tDI (K : PySem.W.Frag) (W : WX) (f : M (List D)) : TI := fun σ H R => ∃ c G ρ, Rst K c G H σ ρ ∧ wpM (f ρ) (fun ds ρ' => ∀ J G' H', Rst K c G' H' σ ρ' → Same G G' → Walks K G' J ds → R J H') (EXk K c W σ G)
structure DI (X : Cx) (W : WX) (tg iter : Expr) (f : M (List D)) : Prop where
 pi : PI X tg iter (tDI X.K W f)
theorem _root_.L2.PI.weak {X : Cx} {tg iter : Expr} {t t' : TI} (h : PI X tg iter t) (w : ∀ σ H R, t' σ H R → t σ H R) : PI X tg iter t' := ⟨fun pins s σ H R I q => h.run pins s σ H R I (w σ H R q)⟩
theorem walks_list {K : PySem.W.Frag} {G0 : Hp} {a : Addr} {xs : List V} {ds : List D} (h : G0 a = some (.lst xs)) (r : RpL K G0 ds xs) (hz : xs.length ≤ sizeLine) : Walks K G0 (Itl K a) ds where
 sz := by rw [← r.length]; exact hz
 go := fun {c G H σ ρ i} R s hi => by
  have hx : H a = some (.lst xs) := R.gh _ _ (s _ _ h)
  exact ⟨xs, xs[i]'(by rw [r.length]; exact hi), .inl (.inl hx), List.getElem?_eq_getElem _⟩
 yld := fun {c G H H' σ ρ i x} R s ⟨e, q⟩ hi => by
  have e' : H = H' := e.symm
  subst e'
  have hx : H a = some (.lst xs) := R.gh _ _ (s _ _ h)
  obtain ⟨d, q1, q2⟩ := (r.mono s).get' (q xs (.inl (.inl hx)))
  exact ⟨d, G, q1, R, Same.refl G, q2⟩
 stop := fun {c G H σ ρ} R s => ⟨xs, .inl (.inl (R.gh _ _ (s _ _ h))), by rw [r.length]; exact Nat.le_refl _⟩
theorem walks_tup {K : PySem.W.Frag} {G0 : Hp} {a : Addr} {xs : List V} {ds : List D} (h : SqT K G0 a xs) (r : RpL K G0 ds xs) (hz : xs.length ≤ sizeLine) : Walks K G0 (Itt K a) ds where
 sz := by rw [← r.length]; exact hz
 go := fun {c G H σ ρ i} R s hi => ⟨xs, xs[i]'(by rw [r.length]; exact hi), Same.seqt (s.trans R.gh) h, List.getElem?_eq_getElem _⟩
 yld := fun {c G H H' σ ρ i x} R s ⟨e, q⟩ hi => by
  have e' : H = H' := e.symm
  subst e'
  obtain ⟨d, q1, q2⟩ := (r.mono s).get' (q xs (Same.seqt (s.trans R.gh) h))
  exact ⟨d, G, q1, R, Same.refl G, q2⟩
 stop := fun {c G H σ ρ} R s => ⟨xs, Same.seqt (s.trans R.gh) h, by rw [r.length]; exact Nat.le_refl _⟩
def rangeD (lo : Int) (n : Nat) : List D := (List.range n).map fun (k : Nat) => D.int (lo + (k : Int))
theorem walks_range {K : PySem.W.Frag} {G0 : Hp} {lo : Int} {n : Nat} (hz : n ≤ sizeLine) : Walks K G0 (Itr lo n) (rangeD lo n) where
 sz := by simpa [rangeD] using hz
 go := fun {c G H σ ρ i} R s hi => by
  show i < n
  simpa [rangeD] using hi
 yld := fun {c G H H' σ ρ i x} R s ⟨e, q⟩ hi => by
  have e' : H = H' := Eq.symm e
  have q' : x = .int (lo + (i : Int)) := q
  subst e' q'
  have hi' : i < n := by simpa [rangeD] using hi
  exact ⟨.int (lo + (i : Int)), G, by simp [rangeD, hi'], R, Same.refl G, rfl⟩
 stop := fun {c G H σ ρ} R s => by simp [rangeD, Itr]
theorem _root_.L2.PI.or {X : Cx} {tg iter : Expr} {t t' : TI} (h : PI X tg iter t) (h' : PI X tg iter t') : PI X tg iter (fun σ H R => t σ H R ∨ t' σ H R) := ⟨fun pins s σ H R I q => by
 rcases q with q | q
 · exact h.run pins s σ H R I q
 · exact h'.run pins s σ H R I q⟩
section
variable {X : Cx} {pins : List (Addr × Obj)} {σ : L2.St} {H : Hp} {s : Shared} {tg : Expr} {R : It → Hp → Prop} {a : Addr} {xs : List V}
theorem fresh_fp (I : Inv X pins σ H s) {o : Obj} (hf : H s.heap.objs.size = none) : ∀ b ∈ [s.heap.objs.size], FpOk X pins H b := fun b hb => by
 have e : b = s.heap.objs.size := by simpa using hb
 subst e
 exact I.fpOk (Nat.le_refl _) hf
theorem list_it (I : Inv X pins σ H s) (h : SqL X.K H a xs) (q : R (Itl X.K a) H) : wpAny (model X.prog X.w) X.A (pyIter (.ref a)) (PIE X pins σ tg R) X.xe s := by
 obtain ⟨its, rv, p, hz⟩ := I.list h
 exact wpAny_pyIter_list p.isList ⟨s.heap.objs.size, [s.heap.objs.size], _, _, H, rfl, I.kept (t' := s.toks) fun b o e => Heap.get?_push_of_some _ e, turn_list a _, ⟨_, Heap.get?_push_size _ rfl, rfl, rfl⟩,
  fresh_fp I (o := default) (I.hok.fresh (Nat.le_refl _)), q⟩
theorem tup_it (I : Inv X pins σ H s) (h : SqT X.K H a xs) (q : R (Itt X.K a) H) : wpAny (model X.prog X.w) X.A (pyIter (.ref a)) (PIE X pins σ tg R) X.xe s := by
 obtain ⟨its, rv, p, hz⟩ := I.tuple h
 exact wpAny_pyIter_tuple (show s.heap.IsTuple a its.toArray from p) ⟨s.heap.objs.size, [s.heap.objs.size], _, _, H, rfl, I.kept (t' := s.toks) fun b o e => Heap.get?_push_of_some _ e, turn_tuple a _, ⟨_, Heap.get?_push_size _ rfl, rfl, rfl⟩,
  fresh_fp I (o := default) (I.hok.fresh (Nat.le_refl _)), q⟩
end
section
variable {X : Cx} {W : WX} {np : Nat} {a b e tg : Expr} {es : List Expr} {fa fb : M Rv} {ga : M (List Rv)} {pos p p2 : Pos}
def iSeq (fa : M Rv) : M (List D) := do
 let r ← fa
 let d ← toV r
 ofO (items d)
theorem lst_size {pins : List (Addr × Obj)} {σ : L2.St} {H : Hp} {s : Shared} {b : Addr} {xs : List V} (I : Inv X pins σ H s) (h : SqL X.K H b xs) : xs.length ≤ sizeLine := by
 obtain ⟨its, rv, p, hz⟩ := I.list h
 exact hz
theorem tup_size {pins : List (Addr × Obj)} {σ : L2.St} {H : Hp} {s : Shared} {b : Addr} {xs : List V} (I : Inv X pins σ H s) (h : SqT X.K H b xs) : xs.length ≤ sizeLine := by
 obtain ⟨its, rv, p, hz⟩ := I.tuple h
 exact hz
theorem di_seq (ha : DE X W a fa) : DI X W tg a (iSeq fa) := ⟨⟨fun pins s σ H R I ⟨c, G, ρ, Rs, w⟩ => by
 have h0 : tD X.K W fa σ H fun x H1 => ∃ r ρ1 G1, Rst X.K c G1 H1 σ ρ1 ∧ Same G G1 ∧ RpR X.K c G1 H1 σ ρ1 x r ∧ wpM ((do let d ← toV r; ofO (items d)) ρ1) (fun ds ρ' => ∀ J G' H', Rst X.K c G' H' σ ρ' → Same G G' → Walks X.K G' J ds → R J H') (EXk X.K c W σ G) :=
  tg_step Rs (Same.refl G) w fun r ρ1 v G1 H1 R1 s1 _ k w1 => ⟨r, ρ1, G1, R1, s1, k, w1⟩
 refine thn (ha.pe.run pins s σ H _ I h0) fun u s1 ⟨x, H1, I1, ru, r, ρ1, G1, R1, sm1, k, w1⟩ => ?_
 obtain ⟨d, G2, ρ2, s2, R2, k2, w2⟩ := toV_wp R1 k (wpM_bind w1)
 obtain ⟨ds, e1, w3⟩ := ofO_wp w2
 cases d with
 | lst zs =>
  cases e1
  obtain ⟨b, xs, rfl, h2, h3⟩ := k2
  cases ru
  have hs : SqL X.K H1 b xs := .inl (.inl (R2.gh _ _ h2))
  exact list_it I1 hs (w3 _ G2 H1 R2 (sm1.trans s2) (walks_list h2 h3 (lst_size I1 hs)))
 | tup zs =>
  cases e1
  obtain ⟨b, xs, rfl, h2, h3⟩ := k2
  cases ru
  have hs : SqT X.K H1 b xs := Same.seqt R2.gh h2
  exact tup_it I1 hs (w3 _ G2 H1 R2 (sm1.trans s2) (walks_tup h2 h3 (tup_size I1 hs)))
 | _ => cases e1⟩⟩
end
end Dl
namespace Dl
open PySem L2
section
variable {X : Cx} {W : WX} {np : Nat} {a b e tg : Expr} {es : List Expr} {fa fb : M Rv} {ga : M (List Rv)} {pos p p2 : Pos}
def rngOk (i j : Int) : Bool := decide (-(2 ^ 61) ≤ i ∧ i < 2 ^ 61 ∧ -(2 ^ 61) ≤ j ∧ j - i ≤ 16777216)
def dRng1 : List D → Option (List D)
 | [.int j] => if rngOk 0 j = true then some (rangeD 0 j.toNat) else none
 | _ => none
def dRng2 : List D → Option (List D)
 | [.int i, .int j] => if rngOk i j = true then some (rangeD i (j - i).toNat) else none
 | _ => none
def iRng1 (ga : M (List Rv)) : M (List D) := do
 let rs ← ga
 let ds ← peeks rs
 ofO (dRng1 ds)
def iRng2 (ga : M (List Rv)) : M (List D) := do
 let rs ← ga
 let ds ← peeks rs
 ofO (dRng2 ds)
theorem di_rng1 (hg : Gl X "range") (hm : X.mg "range" = none) (ha : DA X W [a] ga) (hs : starEach [a] X.env = [(false, eval a X.env)] := by rfl) : DI X W tg (.Call (.Name "range" p) [a] [] pos) (iRng1 ga) :=
 ⟨(pi_range1 hg hm ha.pa hs).weak fun σ H R ⟨c, G, ρ, Rs, w⟩ => by
  refine tg_step Rs (Same.refl G) w fun rs ρ1 vs G1 H1 R1 s1 _ k1 w1 => ?_
  obtain ⟨ds, kd, w2⟩ := peeks_wp R1 k1 (wpM_bind w1)
  obtain ⟨q, eq, w3⟩ := ofO_wp w2
  unfold dRng1 at eq
  split at eq
  · rename_i j
    by_cases hr : rngOk 0 j = true
    · rw [if_pos hr] at eq
      cases eq
      obtain ⟨v, rfl, kv⟩ := kd.one
      obtain ⟨h1, h2, h3, h4⟩ := of_decide_eq_true (p := -(2 ^ 61) ≤ (0 : Int) ∧ (0 : Int) < 2 ^ 61 ∧ -(2 ^ 61) ≤ j ∧ j - 0 ≤ 16777216) hr
      exact ⟨j, by rw [kv.int], by omega, by omega, w3 _ G1 H1 R1 s1 (walks_range (by rw [PySem.sizeLine_eq]; omega))⟩
    · rw [if_neg hr] at eq; cases eq
  · cases eq⟩
end
def forL (tg : D → List S → Option (List S)) (body : MS) : List D → MS
 | [], ρ => some (.nx ρ)
 | d :: ds, ρ => match tg d ρ with
  | none => none
  | some ρ1 => match body ρ1 with
   | some (.nx ρ') => forL tg body ds ρ'
   | some (.ct ρ') => forL tg body ds ρ'
   | some (.bk ρ') => some (.nx ρ')
   | o => o
def sFor (it : M (List D)) (tg : D → List S → Option (List S)) (body : MS) : MS := thenS it fun ds => forL tg body ds
structure Go (X : Cx) (W : WX) : Prop where
 tk : L2N.Takes X W
 po : PassesOwn (model X.prog X.w) X.A X.env X.xe
 calm : X.calm = true
 nd : X.N.Nodup
 rm : Rm X
section
variable {X : Cx} {W : WX} {np : Nat} {a b e tg iter cc : Expr} {es : List Expr} {fa fb : M Rv} {ga : M (List Rv)} {pos p p2 : Pos} {sts : List Stmt} {it : M (List D)} {g : D → List S → Option (List S)} {body : MS}
theorem ds_for {ts : List Nat} (go : Go X W) (hi : DI X W tg iter it) (hg : DG X tg ts g) (hb : DL X W np sts body) (hs : ∀ x, foldedSetIterable iter X.env x = pure x := by intro _; rfl) : DS X W np (.For tg iter sts [] pos) (sFor it g body) :=
 ⟨(ps_for go.po go.calm hi.pi hg.pg hb.pss hs).weak fun Dn σ H ⟨c, G, ρ, o, hl, R, h, po⟩ => by
  refine ⟨c, G, ρ, R, wpM_mono (thenS_wp h) (fun ds ρ1 h1 J G1 H1 R1 s1 wk => ?_) fun e ρ1 he => by subst he; exact EXk.of_po po⟩
  have po1 := po.mono s1
  refine ⟨fun i m σ2 H2 => m = ds.length - i ∧ i ≤ ds.length ∧ ∃ G2 ρ2, Rst X.K c G2 H2 σ2 ρ2 ∧ Same G1 G2 ∧ forL g body (ds.drop i) ρ2 = some o ∧ Po X.K c W G2 Dn o,
   ⟨ds.length, by omega, Nat.zero_le _, G1, ρ1, R1, Same.refl G1, h1, po1⟩, ?_⟩
  rintro i m σ2 H2 ⟨hm, hi, G2, ρ2, R2, s2, h2, po2⟩
  by_cases hlt : i < ds.length
  · refine .inr ⟨wk.go R2 s2 hlt, fun σ' H' => (i + 1 ≤ ds.length ∧ ∃ G' ρ', Rst X.K c G' H' σ' ρ' ∧ Same G1 G' ∧ forL g body (ds.drop (i + 1)) ρ' = some o ∧ Po X.K c W G' Dn o), fun σ' H' hN => ⟨ds.length - (i + 1), by omega, rfl, hN⟩, fun x H' hy => ?_⟩
    obtain ⟨d, G3, e1, R3, s3, k3⟩ := wk.yld R2 s2 hy hlt
    have hd : ds.drop i = d :: ds.drop (i + 1) := by
     rw [List.drop_eq_getElem_cons hlt]
     rw [List.getElem?_eq_getElem hlt] at e1
     rw [Option.some.inj e1]
    rw [hd] at h2
    unfold forL at h2
    cases q : g d ρ2 with
    | none => rw [q] at h2; cases h2
    | some ρ3 =>
     rw [q] at h2
     dsimp only at h2
     refine ⟨c, G3, ρ2, d, ρ3, R3, k3, q, fun σ3 R3' _ => ?_⟩
     cases q2 : body ρ3 with
     | none => rw [q2] at h2; cases h2
     | some o3 =>
      rw [q2] at h2
      refine ⟨c, G3, ρ3, o3, hl, R3', q2, ?_⟩
      cases o3 with
      | nx ρ4 => exact fun σ4 G4 H4 R4 s4 => ⟨by omega, G4, ρ4, R4, (s2.trans s3).trans s4, h2, po2.mono (s3.trans s4)⟩
      | ct ρ4 => exact fun σ4 G4 H4 R4 s4 => ⟨by omega, G4, ρ4, R4, (s2.trans s3).trans s4, h2, po2.mono (s3.trans s4)⟩
      | bk ρ4 => cases h2; exact fun σ4 G4 H4 R4 s4 => po2 σ4 G4 H4 R4 (s3.trans s4)
      | rt r ρ4 => cases h2; exact po2.mono s3
      | ex x ρ4 => cases h2; exact po2.mono s3
  · have e0 : i = ds.length := by omega
    subst e0
    rw [List.drop_length] at h2
    cases h2
    exact .inl ⟨wk.stop R2 s2, po2 σ2 G2 H2 R2 (Same.refl G2)⟩⟩
end
def whN (g : M Bool) (body : MS) : Nat → MS
 | 0, _ => none
 | n + 1, ρ => match g ρ with
  | none => none
  | some (.ex e ρ') => some (.ex e ρ')
  | some (.ok false ρ') => some (.nx ρ')
  | some (.ok true ρ1) => match body ρ1 with
   | some (.nx ρ') => whN g body n ρ'
   | some (.ct ρ') => whN g body n ρ'
   | some (.bk ρ') => some (.nx ρ')
   | o => o
theorem whN_mono {g : M Bool} {body : MS} : ∀ {n : Nat} {ρ : List S} {o : Os}, whN g body n ρ = some o → whN g body (n + 1) ρ = some o
 | 0, _, _, h => nomatch h
 | n + 1, ρ, o, h => by
  unfold whN at h ⊢
  cases e : g ρ with
  | none => rw [e] at h; cases h
  | some q =>
   rw [e] at h
   cases q with
   | ex x ρ' => exact h
   | ok b ρ1 =>
    cases b with
    | false => exact h
    | true =>
     dsimp only at h ⊢
     cases e2 : body ρ1 with
     | none => rw [e2] at h; cases h
     | some q2 =>
      rw [e2] at h
      cases q2 with
      | nx ρ' => exact whN_mono h
      | ct ρ' => exact whN_mono h
      | bk ρ' => exact h
      | rt r ρ' => exact h
      | ex x ρ' => exact h
theorem whN_le {g : M Bool} {body : MS} {n m : Nat} (hle : n ≤ m) {ρ : List S} {o : Os} (h : whN g body n ρ = some o) : whN g body m ρ = some o := by
 induction hle with
 | refl => exact h
 | step _ ih => exact whN_mono ih
open Classical in
noncomputable def whL (g : M Bool) (body : MS) : MS := fun ρ => if h : ∃ n o, whN g body n ρ = some o then some (Classical.choose (Classical.choose_spec h)) else none
theorem whL_of {g : M Bool} {body : MS} {n : Nat} {ρ : List S} {o : Os} (h : whN g body n ρ = some o) : whL g body ρ = some o := by
 unfold whL
 have hx : ∃ n o, whN g body n ρ = some o := ⟨n, o, h⟩
 rw [dif_pos hx]
 have h2 := Classical.choose_spec (Classical.choose_spec hx)
 have a := whN_le (Nat.le_max_left n (Classical.choose hx)) h
 have b := whN_le (Nat.le_max_right n (Classical.choose hx)) h2
 rw [a] at b
 exact b.symm
theorem whL_some {g : M Bool} {body : MS} {ρ : List S} {o : Os} (h : whL g body ρ = some o) : ∃ n, whN g body n ρ = some o := by
 unfold whL at h
 split at h
 · rename_i hx
   refine ⟨Classical.choose hx, ?_⟩
   have h2 := Classical.choose_spec (Classical.choose_spec hx)
   rw [← Option.some.inj h]
   exact h2
 · cases h
noncomputable abbrev sWhile (g : M Bool) (body : MS) : MS := whL g body
section
variable {X : Cx} {W : WX} {np : Nat} {cc : Expr} {pos : Pos} {sts : List Stmt} {g : M Bool} {body : MS}
theorem ds_while (go : Go X W) (hc : DT X W cc g) (hb : DL X W np sts body) : DS X W np (.While cc sts [] pos) (sWhile g body) :=
 ⟨(ps_while go.po hc.pt hb.pss).weak fun Dn σ H ⟨c, G, ρ, o, hl, R, h, po⟩ => by
  obtain ⟨n0, h0⟩ := whL_some h
  refine ⟨fun m σ2 H2 => ∃ G2 ρ2, Rst X.K c G2 H2 σ2 ρ2 ∧ whN g body m ρ2 = some o ∧ Po X.K c W G2 Dn o, ⟨n0, G, ρ, R, h0, po⟩, ?_⟩
  rintro m σ2 H2 ⟨G2, ρ2, R2, h2, po2⟩
  cases m with
  | zero => cases h2
  | succ m =>
   unfold whN at h2
   refine ⟨c, G2, ρ2, R2, ?_⟩
   cases q : g ρ2 with
   | none => rw [q] at h2; cases h2
   | some ot =>
    rw [q] at h2
    cases ot with
    | ex x ρ3 => cases h2; exact EXk.of_po po2
    | ok b ρ3 =>
     refine fun b' G3 H3 R3 s3 eb => ?_
     obtain rfl : b' = b := eb
     have po3 := po2.mono s3
     cases b' with
     | false => cases h2; exact po3 σ2 G3 H3 R3 (Same.refl G3)
     | true =>
      dsimp only at h2
      rw [if_pos rfl]
      refine ⟨fun σ' H' => ∃ G' ρ', Rst X.K c G' H' σ' ρ' ∧ whN g body m ρ' = some o ∧ Po X.K c W G' Dn o, fun σ' H' hN => ⟨m, Nat.lt_succ_self m, hN⟩, ?_⟩
      cases q2 : body ρ3 with
      | none => rw [q2] at h2; cases h2
      | some o3 =>
       rw [q2] at h2
       refine ⟨c, G3, ρ3, o3, hl, R3, q2, ?_⟩
       cases o3 with
       | nx ρ4 => exact fun σ4 G4 H4 R4 s4 => ⟨G4, ρ4, R4, h2, po3.mono s4⟩
       | ct ρ4 => exact fun σ4 G4 H4 R4 s4 => ⟨G4, ρ4, R4, h2, po3.mono s4⟩
       | bk ρ4 => cases h2; exact fun σ4 G4 H4 R4 s4 => po3 σ4 G4 H4 R4 s4
       | rt r ρ4 => cases h2; exact po3
       | ex x ρ4 => cases h2; exact po3⟩
end
end Dl
namespace Dl
open PySem L2
def Cn.with (c : Cn) (p : Addr) (o : HO) : Cn := { c with F := upd c.F p o }
section
variable {K : PySem.W.Frag} {c : Cn} {G G' H H' : Hp} {σ : L2.St} {ρ ρ' : List S} {p : Addr} {o o' : HO}
theorem Ow.fmono {K : PySem.W.Frag} {F F' G H : Hp} {a : Addr} {d : D} (hd : ∀ b, H b = some (.own a) → F b = none → F' b = none) (h : Ow K F G H a d) : Ow K F' G H a d := by
 cases d with
 | lst ds => exact h
 | obj c ns ds => obtain ⟨dx, xs, h1, h2, h3, h4, h5, hl, h6⟩ := h; exact ⟨dx, xs, h1, h2, h3, hd dx h2 h4, h5, hl, h6⟩
 | dic ks vs => exact h
 | ndi ks vs => exact h
 | _ => exact h.elim
theorem Rst.keep (R : Rst K c G H σ ρ) (hp : H p = some o) (gp : G p = none) (ho : ∀ b, o ≠ .own b) (ns : ∀ (i : Nat) (e : D), ρ[i]? = some (.own e) → σ[i]? ≠ some (some (.ref p))) : Rst K (c.with p o) G H σ ρ where
 fh := fun b u e => by
  by_cases z : b = p
  · subst z; have e : upd c.F b o b = some u := e; rw [upd_same] at e; cases e; exact hp
  · have e : upd c.F p o b = some u := e; rw [upd_ne z] at e; exact R.fh b u e
 gh := R.gh
 fg := fun b u e => by
  by_cases z : b = p
  · subst z; exact gp
  · have e : upd c.F p o b = some u := e; rw [upd_ne z] at e; exact R.fg b u e
 len := R.len
 val := R.val
 own := fun i d e => by
  obtain ⟨a, h1, h2, h3, h4⟩ := R.own i d e
  refine ⟨a, h1, h2, ?_, h4.fmono fun b hb fb => ?_⟩
  · show upd c.F p o a = none
    rw [upd_ne (fun z => by subst z; exact ns i d e h1)]; exact h3
  · show upd c.F p o b = none
    rw [upd_ne (fun z => by subst z; rw [hp] at hb; exact ho a (Option.some.inj hb))]; exact fb
 ne := R.ne
 par := R.par
theorem Rst.unkeep (R : Rst K (c.with p o) G H σ ρ) (fp : c.F p = none) : Rst K c G H σ ρ where
 fh := fun b u e => R.fh b u (by show upd c.F p o b = some u; rw [upd_ne (ne_of_none e fp)]; exact e)
 gh := R.gh
 fg := fun b u e => R.fg b u (by show upd c.F p o b = some u; rw [upd_ne (ne_of_none e fp)]; exact e)
 len := R.len
 val := R.val
 own := fun i d e => by
  obtain ⟨a, h1, h2, h3, h4⟩ := R.own i d e
  have low : ∀ b, (c.with p o).F b = none → c.F b = none := fun b hb => by
   by_cases z : b = p
   · subst z; exact fp
   · have hb : upd c.F p o b = none := hb
     rw [upd_ne z] at hb; exact hb
  exact ⟨a, h1, h2, low a h3, h4.fmono fun b _ hb => low b hb⟩
 ne := R.ne
 par := R.par
theorem Rst.store (R : Rst K (c.with p o) G H σ ρ) (ho : ∀ b, o ≠ .own b) : Rst K (c.with p o') G (upd H p o') σ ρ := by
 have hF : (c.with p o).F p = some o := upd_same
 have hp : H p = some o := R.fh _ _ hF
 have gp : G p = none := R.fg _ _ hF
 refine ⟨fun b u e => ?_, fun b u e => ?_, fun b u e => ?_, R.len, R.val, fun i d e => ?_, R.ne, R.par⟩
 · have e : upd c.F p o' b = some u := e
   by_cases z : b = p
   · subst z; rw [upd_same] at e ⊢; exact e
   · rw [upd_ne z] at e ⊢; exact R.fh b u (by show upd c.F p o b = some u; rw [upd_ne z]; exact e)
 · rw [upd_ne (ne_of_none e gp)]; exact R.gh _ _ e
 · have e : upd c.F p o' b = some u := e
   by_cases z : b = p
   · subst z; exact gp
   · rw [upd_ne z] at e; exact R.fg b u (by show upd c.F p o b = some u; rw [upd_ne z]; exact e)
 · obtain ⟨a, h1, h2, h3, h4⟩ := R.own i d e
   have na : a ≠ p := fun z => by subst z; rw [hF] at h3; cases h3
   have low : ∀ b, b ≠ p → (c.with p o).F b = none → (c.with p o').F b = none := fun b z hb => by
    have hb : upd c.F p o b = none := hb
    show upd c.F p o' b = none
    rw [upd_ne z] at hb ⊢; exact hb
   refine ⟨a, h1, h2, low a na h3, ?_⟩
   cases d with
   | lst ds => obtain ⟨xs, q1, q2⟩ := h4; exact ⟨xs, by rw [upd_ne na]; exact q1, q2⟩
   | obj cc ns ds =>
    obtain ⟨dx, xs, q1, q2, q3, q4, q5, q6, q7⟩ := h4
    have nd : dx ≠ p := fun z => by subst z; rw [hp] at q2; exact ho a (Option.some.inj q2)
    exact ⟨dx, xs, by rw [upd_ne na]; exact q1, by rw [upd_ne nd]; exact q2, q3, low dx nd q4, q5, q6, q7⟩
   | dic ks vs => obtain ⟨kvs, q1, q2, q3⟩ := h4; exact ⟨kvs, by rw [upd_ne na]; exact q1, q2, q3⟩
   | ndi ks vs => obtain ⟨kvs, q1, q2⟩ := h4; exact ⟨kvs, by rw [upd_ne na]; exact q1, q2⟩
   | _ => exact h4.elim
end
def wipeS (ρ : List S) : List Nat → List S
 | [] => ρ
 | v :: vs => (wipeS ρ vs).set v .no
def backS (ρ0 ρ : List S) : List Nat → List S
 | [] => ρ
 | v :: vs => (backS ρ0 ρ vs).set v (ρ0.getD v .no)
def isOwn : Option S → Bool
 | some (.own _) => true
 | _ => false
def noOwn (ρ : List S) (vs : List Nat) : Bool := vs.all fun v => !isOwn ρ[v]?
section
variable {K : PySem.W.Frag} {c : Cn} {G G' H H' : Hp} {σ σ2 : L2.St} {ρ ρ' ρ2 : List S}
theorem wipe_in {σ : L2.St} : ∀ {vs : List Nat} {j : Nat}, j ∉ vs → (wipe σ vs)[j]? = σ[j]?
 | [], _, _ => rfl
 | v :: vs, j, h => by
  unfold wipe
  have h2 : j ≠ v ∧ j ∉ vs := by simpa using h
  rw [List.getElem?_set_ne (Ne.symm h2.1)]
  exact wipe_in h2.2
theorem wipeS_get {ρ : List S} : ∀ {vs : List Nat} {j : Nat} {s : S}, (wipeS ρ vs)[j]? = some s → s ≠ .no → ρ[j]? = some s ∧ j ∉ vs
 | [], _, _, h, _ => ⟨h, by simp⟩
 | v :: vs, j, s, h, n => by
  unfold wipeS at h
  rcases set_cases h with ⟨_, _, e⟩ | ⟨hj, h⟩
  · exact absurd e n
  · obtain ⟨h1, h2⟩ := wipeS_get h n
    exact ⟨h1, by simp [hj, h2]⟩
theorem wipeS_length (ρ : List S) : ∀ vs : List Nat, (wipeS ρ vs).length = ρ.length
 | [] => rfl
 | v :: vs => by unfold wipeS; rw [List.length_set, wipeS_length ρ vs]
theorem backS_length (ρ0 ρ : List S) : ∀ vs : List Nat, (backS ρ0 ρ vs).length = ρ.length
 | [] => rfl
 | v :: vs => by unfold backS; rw [List.length_set, backS_length ρ0 ρ vs]
theorem backS_get {ρ0 ρ : List S} (hl : ρ0.length = ρ.length) : ∀ {vs : List Nat} {j : Nat} {s : S}, (backS ρ0 ρ vs)[j]? = some s → (j ∈ vs ∧ ρ0[j]? = some s) ∨ (j ∉ vs ∧ ρ[j]? = some s)
 | [], _, _, h => .inr ⟨by simp, h⟩
 | v :: vs, j, s, h => by
  unfold backS at h
  rcases set_cases h with ⟨e1, hv, e⟩ | ⟨hj, h⟩
  · subst e1
    refine .inl ⟨by simp, ?_⟩
    rw [backS_length] at hv
    have h0 : j < ρ0.length := by omega
    rw [e, List.getD_eq_getElem?_getD, List.getElem?_eq_getElem h0]; rfl
  · rcases backS_get hl h with ⟨h1, h2⟩ | ⟨h1, h2⟩
    · exact .inl ⟨by simp [h1], h2⟩
    · exact .inr ⟨by simp [hj, h1], h2⟩
theorem Rst.wiped (R : Rst K c G H σ ρ) (vs : List Nat) : Rst K c G H (wipe σ vs) (wipeS ρ vs) where
 fh := R.fh
 gh := R.gh
 fg := R.fg
 len := by rw [wipeS_length, wipe_length, R.len]
 val := fun i d e => by
  obtain ⟨h1, h2⟩ := wipeS_get e (by intro z; cases z)
  rw [wipe_in h2]; exact R.val i d h1
 own := fun i d e => by
  obtain ⟨h1, h2⟩ := wipeS_get e (by intro z; cases z)
  rw [wipe_in h2]; exact R.own i d h1
 ne := fun i j d e a q1 q2 r1 r2 => by
  obtain ⟨h1, h2⟩ := wipeS_get q1 (by intro z; cases z)
  obtain ⟨h3, h4⟩ := wipeS_get q2 (by intro z; cases z)
  rw [wipe_in h2] at r1
  rw [wipe_in h4] at r2
  exact R.ne i j d e a h1 h3 r1 r2
 par := fun i d e hl => by
  obtain ⟨h1, h2⟩ := wipeS_get e (by intro z; cases z)
  rw [wipe_in h2]; exact R.par i d h1 hl
theorem same_of_wipe {σ σ2 : L2.St} {vs : List Nat} (h : wipe σ2 vs = wipe σ vs) {j : Nat} (hj : j ∉ vs) : σ2[j]? = σ[j]? := by
 have h1 := wipe_in (σ := σ2) hj
 have h2 := wipe_in (σ := σ) hj
 rw [← h1, ← h2, h]
theorem Rst.backed {c0 : Cn} {G0 H0 : Hp} (R0 : Rst K c0 G0 H0 σ ρ) (s : Same G0 G) (R : Rst K c G H σ2 ρ2) {vs : List Nat} (w : wipe σ2 vs = wipe σ vs) (no : noOwn ρ vs = true) : Rst K c G H σ (backS ρ ρ2 vs) := by
 have hlen : ρ.length = ρ2.length := by
  have e := congrArg List.length w
  rw [wipe_length, wipe_length] at e
  rw [R0.len, R.len, e]
 have nown : ∀ {j : Nat} {d : D}, (backS ρ ρ2 vs)[j]? = some (.own d) → j ∉ vs ∧ ρ2[j]? = some (.own d) := fun {j d} e => by
  rcases backS_get hlen e with ⟨h1, h2⟩ | h
  · exfalso
    have := List.all_eq_true.mp no j h1
    rw [h2] at this
    cases this
  · exact h
 refine ⟨R.fh, R.gh, R.fg, ?_, fun j d e => ?_, fun j d e => ?_, fun j k d e a q1 q2 r1 r2 => ?_, fun j d e hl => ?_⟩
 · rw [backS_length, ← hlen]; exact R0.len
 · rcases backS_get hlen e with ⟨h1, h2⟩ | ⟨h1, h2⟩
   · obtain ⟨v, k1, k2⟩ := R0.val j d h2
     exact ⟨v, k1, k2.mono s⟩
   · rw [← same_of_wipe w h1]; exact R.val j d h2
 · obtain ⟨h1, h2⟩ := nown e
   rw [← same_of_wipe w h1]; exact R.own j d h2
 · obtain ⟨h1, h2⟩ := nown q1
   obtain ⟨h3, h4⟩ := nown q2
   rw [← same_of_wipe w h1] at r1
   rw [← same_of_wipe w h3] at r2
   exact R.ne j k d e a h2 h4 r1 r2
 · obtain ⟨h1, h2⟩ := nown e
   rw [← same_of_wipe w h1]; exact R.par j d h2 hl
end
def lcL (tg : D → List S → Option (List S)) (tt : M Bool) (te : M Rv) (vs : List Nat) : List D → List D → M (List D)
 | [], acc, ρ => some (.ok acc ρ)
 | d :: ds, acc, ρ => match tg d (wipeS ρ vs) with
  | none => none
  | some ρ1 => match tt ρ1 with
   | some (.ok false ρ2) => lcL tg tt te vs ds acc (backS ρ ρ2 vs)
   | some (.ok true ρ2) => match (te >>= toV) ρ2 with
    | some (.ok e ρ3) => lcL tg tt te vs ds (acc ++ [e]) (backS ρ ρ3 vs)
    | _ => none
   | _ => none
def eLc (it : M (List D)) (tg : D → List S → Option (List S)) (tt : M Bool) (te : M Rv) (vs : List Nat) : M Rv := do
 let ds ← it
 let acc ← fun ρ => if noOwn ρ vs = true then lcL tg tt te vs ds [] ρ else none
 pure (.own (.lst acc))
def tYes' : M Bool := pure true
structure DTs (X : Cx) (ifs : List Expr) (f : M Bool) : Prop where
 pts : PTs X ifs (tDT X.K WX0 f)
theorem _root_.L2.PTs.weak {X : Cx} {ifs : List Expr} {t t' : TT} (h : PTs X ifs t) (w : ∀ σ H Q, t' σ H Q → t σ H Q) : PTs X ifs t' := ⟨fun pins s σ H Q I q => h.run pins s σ H Q I (w σ H Q q)⟩
theorem dts_nil {X : Cx} : DTs X [] tYes' := ⟨pts_nil.weak fun σ H Q ⟨c, G, ρ, R, w⟩ => w true G H R (Same.refl G) rfl⟩
theorem dts_one {X : Cx} {e : Expr} {f : M Bool} (h : DT X WX0 e f) : DTs X [e] f := ⟨pts_one h.pt⟩
theorem exk0 {K : PySem.W.Frag} {c : Cn} {σ : L2.St} {G : Hp} {α : Type} {o : Option (Ot α)} {OK : α → List S → Prop} (h : ∃ a ρ, o = some (.ok a ρ) ∧ OK a ρ) : wpM o OK (EXk K c WX0 σ G) := by
 obtain ⟨a, ρ, rfl, k⟩ := h
 exact k
theorem wipe_get {σ : L2.St} : ∀ {vs : List Nat} {j : Nat}, j ∈ vs → j < σ.length → (wipe σ vs)[j]? = some none
 | v :: vs, j, h, hl => by
  unfold wipe
  by_cases e : j = v
  · subst e; rw [List.getElem?_set_self (by rw [wipe_length]; exact hl)]
  · rw [List.getElem?_set_ne (Ne.symm e)]
    exact wipe_get (by simpa [e] using h) hl
theorem wipe_ext {σ σ' : L2.St} {vs : List Nat} (hl : σ'.length = σ.length) (h : ∀ j, j ∉ vs → σ'[j]? = σ[j]?) : wipe σ' vs = wipe σ vs := by
 apply List.ext_getElem?
 intro j
 by_cases hj : j ∈ vs
 · by_cases hlt : j < σ.length
   · rw [wipe_get hj hlt, wipe_get hj (by omega)]
   · rw [List.getElem?_eq_none (by rw [wipe_length]; omega), List.getElem?_eq_none (by rw [wipe_length]; omega)]
 · rw [wipe_in hj, wipe_in hj, h j hj]
theorem wipe_out {σ σ3 : L2.St} {vs ts : List Nat} (o : Out ts (wipe σ vs) σ3) (hts : ∀ t ∈ ts, t ∈ vs) : wipe σ3 vs = wipe σ vs :=
 wipe_ext (by rw [o.1, wipe_length]) fun j hj => by rw [o.2 j (fun z => hj (hts j z)), wipe_in hj]
theorem noOwn_back {ρ ρ3 : List S} {vs : List Nat} (hl : ρ.length = ρ3.length) (h : noOwn ρ vs = true) : noOwn (backS ρ ρ3 vs) vs = true := by
 refine List.all_eq_true.mpr fun v hv => ?_
 have h1 := List.all_eq_true.mp h v hv
 cases e : (backS ρ ρ3 vs)[v]? with
 | none => rfl
 | some s =>
  rcases backS_get hl e with ⟨_, h2⟩ | ⟨h2, _⟩
  · rw [h2] at h1; exact h1
  · exact absurd hv h2
theorem lcL_ex {tg : D → List S → Option (List S)} {tt : M Bool} {te : M Rv} {vs : List Nat} : ∀ {ds acc : List D} {ρ : List S} {o : Ot (List D)}, lcL tg tt te vs ds acc ρ = some o → ∃ a ρ', o = .ok a ρ'
 | [], acc, ρ, o, h => by cases h; exact ⟨_, _, rfl⟩
 | d :: ds, acc, ρ, o, h => by
  unfold lcL at h
  split at h
  · cases h
  · split at h
    · exact lcL_ex h
    · split at h
      · exact lcL_ex h
      · cases h
    · cases h
section
variable {X : Cx} {W : WX} {elt tg iter : Expr} {ifs : List Expr} {scope : Scope} {own : List (Str × Nat)} {pos : Pos} {it : M (List D)} {g : D → List S → Option (List S)} {tt : M Bool} {te : M Rv} {ts : List Nat}
theorem tD_lc {own : List (Str × Nat)} (hts : ∀ t ∈ ts, t ∈ own.map (·.2)) {σ : L2.St} {H : Hp} {Q : VK} (h : tD X.K W (eLc it g tt te (own.map (·.2))) σ H Q) : tLc (tDI X.K W it) (tDG X.K ts g) (tDT X.K WX0 tt) (tD X.K WX0 te) (own.map (·.2)) σ H Q := by
 obtain ⟨c, G, ρ, R, w⟩ := h
 refine ⟨c, G, ρ, R, wpM_mono (wpM_bind w) (fun ds ρ1 w1 J G1 H1 R1 s1 wk => ?_) fun _ _ x => x⟩
 have w2 := wpM_bind w1
 by_cases hn : noOwn ρ1 (own.map (·.2)) = true
 · rw [if_pos hn] at w2
   intro p hp
   have fp := R1.f_none hp
   cases e : lcL g tt te (own.map (·.2)) ds [] ρ1 with
   | none => rw [e] at w2; exact w2.elim
   | some o =>
    obtain ⟨out, ρe, rfl⟩ := lcL_ex e
    rw [e] at w2
    have w3 : ∀ (b : V) (G' H' : Hp), Rst X.K c G' H' σ ρe → Same G G' → RpR X.K c G' H' σ ρe b (.own (.lst out)) → Q b H' := w2
    refine ⟨fun i m H2 => m = ds.length - i ∧ i ≤ ds.length ∧ ∃ G2 ρ2 acc accV, Rst X.K (c.with p (.lst accV)) G2 H2 σ ρ2 ∧ Same G1 G2 ∧ RpL X.K G2 acc accV ∧ acc.length ≤ i ∧ noOwn ρ2 (own.map (·.2)) = true ∧ lcL g tt te (own.map (·.2)) (ds.drop i) acc ρ2 = some (.ok out ρe),
     ⟨ds.length, by omega, Nat.zero_le _, G1, ρ1, [], [], (R1.laid hp).keep upd_same (R1.g_none hp) (fun b z => nomatch z) (R1.not_slot hp), Same.refl G1, rfl, Nat.le_refl _, hn, e⟩, ?_⟩
    rintro i m H2 ⟨hm, hi2, G2, ρ2, acc, accV, R2, s2, ka, hla, hn2, e2⟩
    by_cases hlt : i < ds.length
    · refine .inr ⟨wk.go R2 s2 hlt, fun H' => i + 1 ≤ ds.length ∧ ∃ G' ρ' acc' accV', Rst X.K (c.with p (.lst accV')) G' H' σ ρ' ∧ Same G1 G' ∧ RpL X.K G' acc' accV' ∧ acc'.length ≤ i + 1 ∧ noOwn ρ' (own.map (·.2)) = true ∧ lcL g tt te (own.map (·.2)) (ds.drop (i + 1)) acc' ρ' = some (.ok out ρe),
        fun H' hN => ⟨ds.length - (i + 1), by omega, rfl, hN⟩, fun x H' hy => ?_⟩
      obtain ⟨d, G3, e1, R3, s3, k3⟩ := wk.yld R2 s2 hy hlt
      have hd : ds.drop i = d :: ds.drop (i + 1) := by
       rw [List.drop_eq_getElem_cons hlt]
       rw [List.getElem?_eq_getElem hlt] at e1
       rw [Option.some.inj e1]
      rw [hd] at e2
      unfold lcL at e2
      cases q : g d (wipeS ρ2 (own.map (·.2))) with
      | none => rw [q] at e2; cases e2
      | some ρ3 =>
       rw [q] at e2
       dsimp only at e2
       refine ⟨c.with p (.lst accV), G3, wipeS ρ2 (own.map (·.2)), d, ρ3, R3.wiped _, k3, q, fun σ3 R3' o3 => ?_⟩
       have hw := wipe_out o3 hts
       have hlen : ρ2.length = σ3.length := by
        have z := congrArg List.length hw
        rw [wipe_length, wipe_length] at z
        rw [R2.len, z]
       refine ⟨hw, ?_⟩
       refine ⟨c.with p (.lst accV), G3, ρ3, R3', exk0 ?_⟩
       cases q2 : tt ρ3 with
       | none => rw [q2] at e2; cases e2
       | some o4 =>
        cases o4 with
        | ex x ρ4 => rw [q2] at e2; cases e2
        | ok b ρ4 =>
         rw [q2] at e2
         refine ⟨b, ρ4, rfl, fun b' G4 H4 R4 s4 eb => ?_⟩
         obtain rfl : b' = b := eb
         cases b' with
         | false =>
          rw [if_neg Bool.false_ne_true]
          dsimp only at e2
          have hl4 : ρ2.length = ρ4.length := by rw [hlen, R4.len]
          exact ⟨by omega, G4, _, acc, accV, R2.backed (s3.trans s4) R4 hw hn2, (s2.trans s3).trans s4, ka.mono (s3.trans s4), by omega, noOwn_back hl4 hn2, e2⟩
         | true =>
          rw [if_pos rfl]
          dsimp only at e2
          refine ⟨c.with p (.lst accV), G4, ρ4, R4, exk0 ?_⟩
          rw [bind_eq] at e2
          cases q3 : te ρ4 with
          | none => rw [q3] at e2; cases e2
          | some o5 =>
           cases o5 with
           | ex x ρ5 => rw [q3] at e2; cases e2
           | ok r ρ5 =>
            rw [q3] at e2
            refine ⟨r, ρ5, rfl, fun y G5 H5 R5 s5 ky => ?_⟩
            dsimp only at e2
            have tw : wpM (toV r ρ5) (fun z ρ6 => lcL g tt te (own.map (·.2)) (ds.drop (i + 1)) (acc ++ [z]) (backS ρ2 ρ6 (own.map (·.2))) = some (.ok out ρe)) (fun _ _ => False) := by
             cases q5 : toV r ρ5 with
             | none => rw [q5] at e2; cases e2
             | some o6 => cases o6 with
              | ok z ρ6 => rw [q5] at e2; exact e2
              | ex x ρ6 => rw [q5] at e2; cases e2
            obtain ⟨z, G6, ρ6, s6, R6, kz, e6⟩ := toV_wp R5 ky tw
            have hl6 : ρ2.length = ρ6.length := by rw [hlen, R6.len]
            have sall := (s3.trans s4).trans (s5.trans s6)
            have hacc : accV.length < sizeLine := by rw [ka.length]; exact Nat.lt_of_lt_of_le (Nat.lt_of_le_of_lt hla hlt) wk.sz
            refine ⟨accV, R6.fh _ _ upd_same, hacc, by omega, G6, _, acc ++ [z], accV ++ [y], ?_, s2.trans sall, (ka.mono sall).append (RpL.one kz), by rw [List.length_append, List.length_singleton]; omega, noOwn_back hl6 hn2, e6⟩
            exact (R2.backed sall R6 hw hn2).store fun b z => nomatch z
    · have e0 : i = ds.length := by omega
      subst e0
      rw [List.drop_length] at e2
      cases e2
      have F2 : (c.with p (.lst accV)).F p = some (.lst accV) := upd_same
      refine .inl ⟨wk.stop R2 s2, w3 _ G2 H2 (R2.unkeep fp) (s1.trans s2) ⟨p, rfl, R2.fg _ _ F2, fp, ⟨accV, R2.fh _ _ F2, ka⟩, fun j e q z => ?_⟩⟩
      obtain ⟨a, h1, _, h3, _⟩ := R2.own j e q
      rw [z] at h1; cases h1
      rw [F2] at h3; cases h3
 · rw [if_neg hn] at w2; exact w2.elim
theorem de_lc (own : List (Str × Nat)) (go : Go X W) (hi : DI X W tg iter it) (ok : BlkOk X.N X.env.scope scope own)
  (hg : ∀ (s : Shared) (H : Hp) (C : Addr) (cl : List (Str × Addr)) (fp : List Addr), DG (X.blk s H scope (compEnvC scope cl C X.env) fp) tg ts g) (ht : ∀ (s : Shared) (H : Hp) (C : Addr) (cl : List (Str × Addr)) (fp : List Addr), DTs (X.blk s H scope (compEnvC scope cl C X.env) fp) ifs tt)
  (he : ∀ (s : Shared) (H : Hp) (C : Addr) (cl : List (Str × Addr)) (fp : List Addr), DE (X.blk s H scope (compEnvC scope cl C X.env) fp) WX0 elt te) (hts : ∀ t ∈ ts, t ∈ own.map (·.2) := by decide) (hs : ∀ x, foldedSetIterable iter X.env x = pure x := by intro _; rfl) :
  DE X W (.ListComp elt [⟨tg, iter, ifs, 0⟩] scope pos) (eLc it g tt te (own.map (·.2))) :=
 ⟨(pe_lc (g := tDG X.K ts g) (tt := tDT X.K WX0 tt) (te := tD X.K WX0 te) go.calm go.nd hi.pi ok (fun s H C cl fp => (hg s H C cl fp).pg) (fun s H C cl fp => (ht s H C cl fp).pts) (fun s H C cl fp => (he s H C cl fp).pe) hs).weak fun _ _ _ h => tD_lc hts h⟩
theorem ds_setLc {np : Nat} {y : Str} {py spos : Pos} (i : Nat) (own : List (Str × Nat)) (hy : X.N[i]? = some y) (hyl : X.env.scope.names.lookup y = some .local) (hk : X.env.scope.kind = .function) (hln : (py.line == pos.line) = true) (hnn : (scope.names.any fun (n, k) => n == y && (k == .local || k == .cell)) = false) (go : Go X W) (hi : DI X W tg iter it) (ok : BlkOk X.N X.env.scope scope own)
  (hg : ∀ (s : Shared) (H : Hp) (C : Addr) (cl : List (Str × Addr)) (fp : List Addr), DG (X.blk s H scope (compEnvC scope cl C X.env) fp) tg ts g) (ht : ∀ (s : Shared) (H : Hp) (C : Addr) (cl : List (Str × Addr)) (fp : List Addr), DTs (X.blk s H scope (compEnvC scope cl C X.env) fp) ifs tt)
  (he : ∀ (s : Shared) (H : Hp) (C : Addr) (cl : List (Str × Addr)) (fp : List Addr), DE (X.blk s H scope (compEnvC scope cl C X.env) fp) WX0 elt te) (hts : ∀ t ∈ ts, t ∈ own.map (·.2) := by decide) (hs : ∀ x, foldedSetIterable iter X.env x = pure x := by intro _; rfl) :
  DS X W np (.Assign [.Name y py] (.ListComp elt [⟨tg, iter, ifs, 0⟩] scope pos) spos) (sSet np i (eLc it g tt te (own.map (·.2)))) :=
 ⟨(ps_setLc (g := tDG X.K ts g) (tt := tDT X.K WX0 tt) (te := tD X.K WX0 te) go.calm go.nd hy hyl (sw_true hk hyl hln hnn) hi.pi ok (fun s H C cl fp => (hg s H C cl fp).pg) (fun s H C cl fp => (ht s H C cl fp).pts) (fun s H C cl fp => (he s H C cl fp).pe) hs).weak fun Dn σ H h => tD_lc hts (tS_set i h)⟩
end
end Dl
namespace Dl
open PySem L2
def lcI (tg : D → List S → Option (List S)) (tt : M Bool) (te : M Rv) (vs : List Nat) : List D → List D → M (List D)
 | [], acc, ρ => some (.ok acc ρ)
 | d :: ds, acc, ρ => match tg d (wipeS ρ vs) with
  | none => none
  | some ρ1 => match tt ρ1 with
   | some (.ok false ρ2) => lcI tg tt te vs ds acc (backS ρ ρ2 vs)
   | some (.ok true ρ2) => match (te >>= toV) ρ2 with
    | some (.ok e ρ3) => if acc.length < sizeLine then lcI tg tt te vs ds (acc ++ [e]) (backS ρ ρ3 vs) else none
    | _ => none
   | _ => none
def lcO (tg : D → List S → Option (List S)) (tt : M Bool) (it1 : M (List D)) (tg1 : D → List S → Option (List S)) (tt1 : M Bool) (te : M Rv) (vs vs1 : List Nat) : List D → List D → M (List D)
 | [], acc, ρ => some (.ok acc ρ)
 | d :: ds, acc, ρ => match tg d (wipeS ρ vs) with
  | none => none
  | some ρ1 => match tt ρ1 with
   | some (.ok false ρ2) => lcO tg tt it1 tg1 tt1 te vs vs1 ds acc (backS ρ ρ2 vs)
   | some (.ok true ρ2) => match it1 ρ2 with
    | some (.ok ds1 ρ3) => if noOwn ρ3 vs1 = true then (match lcI tg1 tt1 te vs1 ds1 acc ρ3 with
     | some (.ok acc' ρ4) => lcO tg tt it1 tg1 tt1 te vs vs1 ds acc' (backS ρ ρ4 vs)
     | _ => none) else none
    | _ => none
   | _ => none
def eLc2 (it : M (List D)) (tg : D → List S → Option (List S)) (tt : M Bool) (it1 : M (List D)) (tg1 : D → List S → Option (List S)) (tt1 : M Bool) (te : M Rv) (vs vs1 : List Nat) : M Rv := do
 let ds ← it
 let acc ← fun ρ => if noOwn ρ vs = true then lcO tg tt it1 tg1 tt1 te vs vs1 ds [] ρ else none
 pure (.own (.lst acc))
section
variable {X : Cx} {W : WX} {elt tg iter tg1 iter1 : Expr} {ifs ifs1 : List Expr} {scope : Scope} {pos : Pos} {it it1 : M (List D)} {g g1 : D → List S → Option (List S)} {tt tt1 : M Bool} {te : M Rv} {ts ts1 : List Nat}
end
end Dl
namespace Dl
open PySem L2
inductive Of where
 | ret (r : Rv) (ss : List S) | ex (e : Xn) (ss : List S)
abbrev Fn : Type := List S → Option Of
def FPo (K : PySem.W.Frag) (c : Cn) (vs : List V) (G : Hp) (Q : VK) (E : XK) : Of → Prop
 | .ret r ss' => ∀ v G' H', Rst K c G' H' (vs.map some) ss' → Same G G' → RpR K c G' H' (vs.map some) ss' v r → Q v H'
 | .ex e ss' => ∀ cls d G' H', Rst K c G' H' (vs.map some) ss' → Same G G' → XAt K G' H' e cls d → E cls d H'
def spD (K : PySem.W.Frag) (np : Nat) (fn : Fn) : Sp := fun vs H Q E => ∃ c G ss o, vs.length = np ∧ c.s0 = vs.map some ∧ Rst K c G H (vs.map some) ss ∧ fn ss = some o ∧ FPo K c vs G Q E o
def post : List S → List S → List S
 | [], _ => []
 | .own _ :: ss, .own d :: ρ => .own d :: post ss ρ
 | .own _ :: ss, _ :: ρ => .no :: post ss ρ
 | s :: ss, _ :: ρ => s :: post ss ρ
 | _ :: ss, [] => .no :: post ss []
def mkFn (np n : Nat) (f : MS) : Fn := fun ss => if ss.length = np then
  match f (ss ++ List.replicate (n - np) .no) with
  | some (.nx ρ') => some (.ret (.val .non) (post ss ρ'))
  | some (.rt (.ali _) _) => none
  | some (.rt r ρ') => some (.ret r (post ss ρ'))
  | some (.ex e ρ') => some (.ex e (post ss ρ'))
  | _ => none
 else none
theorem post_length : ∀ (ss ρ : List S), (post ss ρ).length = ss.length
 | [], _ => rfl
 | .own _ :: ss, .own d :: ρ => by unfold post; rw [List.length_cons, List.length_cons, post_length ss ρ]
 | .own _ :: ss, .no :: ρ => by unfold post; rw [List.length_cons, List.length_cons, post_length ss ρ]
 | .own _ :: ss, .val _ :: ρ => by unfold post; rw [List.length_cons, List.length_cons, post_length ss ρ]
 | .no :: ss, _ :: ρ => by unfold post; rw [List.length_cons, List.length_cons, post_length ss ρ]
 | .val _ :: ss, _ :: ρ => by unfold post; rw [List.length_cons, List.length_cons, post_length ss ρ]
 | .own _ :: ss, [] => by unfold post; rw [List.length_cons, List.length_cons, post_length ss []]
 | .no :: ss, [] => by unfold post; rw [List.length_cons, List.length_cons, post_length ss []]
 | .val _ :: ss, [] => by unfold post; rw [List.length_cons, List.length_cons, post_length ss []]
theorem post_own : ∀ {ss ρ : List S} {i : Nat} {d : D}, (post ss ρ)[i]? = some (.own d) → ρ[i]? = some (.own d) ∧ i < ss.length
 | [], _, _, _, h => by unfold post at h; cases h
 | .own _ :: ss, .own e :: ρ, 0, d, h => by unfold post at h; exact ⟨h, Nat.succ_pos _⟩
 | .own _ :: ss, .own e :: ρ, i + 1, d, h => by unfold post at h; obtain ⟨h1, h2⟩ := post_own (show (post ss ρ)[i]? = _ from h); exact ⟨h1, Nat.succ_lt_succ h2⟩
 | .own _ :: ss, .no :: ρ, 0, d, h => by unfold post at h; cases h
 | .own _ :: ss, .no :: ρ, i + 1, d, h => by unfold post at h; obtain ⟨h1, h2⟩ := post_own (show (post ss ρ)[i]? = _ from h); exact ⟨h1, Nat.succ_lt_succ h2⟩
 | .own _ :: ss, .val _ :: ρ, 0, d, h => by unfold post at h; cases h
 | .own _ :: ss, .val _ :: ρ, i + 1, d, h => by unfold post at h; obtain ⟨h1, h2⟩ := post_own (show (post ss ρ)[i]? = _ from h); exact ⟨h1, Nat.succ_lt_succ h2⟩
 | .no :: ss, _ :: ρ, 0, d, h => by unfold post at h; cases h
 | .no :: ss, _ :: ρ, i + 1, d, h => by unfold post at h; obtain ⟨h1, h2⟩ := post_own (show (post ss ρ)[i]? = _ from h); exact ⟨h1, Nat.succ_lt_succ h2⟩
 | .val _ :: ss, _ :: ρ, 0, d, h => by unfold post at h; cases h
 | .val _ :: ss, _ :: ρ, i + 1, d, h => by unfold post at h; obtain ⟨h1, h2⟩ := post_own (show (post ss ρ)[i]? = _ from h); exact ⟨h1, Nat.succ_lt_succ h2⟩
 | .own _ :: ss, [], 0, d, h => by unfold post at h; cases h
 | .own _ :: ss, [], i + 1, d, h => by unfold post at h; obtain ⟨h1, h2⟩ := post_own (show (post ss [])[i]? = _ from h); cases h1
 | .no :: ss, [], 0, d, h => by unfold post at h; cases h
 | .no :: ss, [], i + 1, d, h => by unfold post at h; obtain ⟨h1, h2⟩ := post_own (show (post ss [])[i]? = _ from h); cases h1
 | .val _ :: ss, [], 0, d, h => by unfold post at h; cases h
 | .val _ :: ss, [], i + 1, d, h => by unfold post at h; obtain ⟨h1, h2⟩ := post_own (show (post ss [])[i]? = _ from h); cases h1
theorem post_val : ∀ {ss ρ : List S} {i : Nat} {d : D}, (post ss ρ)[i]? = some (.val d) → ss[i]? = some (.val d)
 | [], _, _, _, h => by unfold post at h; cases h
 | .own _ :: ss, .own e :: ρ, 0, d, h => by unfold post at h; cases h
 | .own _ :: ss, .own e :: ρ, i + 1, d, h => by unfold post at h; show ss[i]? = _; exact post_val (show (post ss ρ)[i]? = _ from h)
 | .own _ :: ss, .no :: ρ, 0, d, h => by unfold post at h; cases h
 | .own _ :: ss, .no :: ρ, i + 1, d, h => by unfold post at h; show ss[i]? = _; exact post_val (show (post ss ρ)[i]? = _ from h)
 | .own _ :: ss, .val _ :: ρ, 0, d, h => by unfold post at h; cases h
 | .own _ :: ss, .val _ :: ρ, i + 1, d, h => by unfold post at h; show ss[i]? = _; exact post_val (show (post ss ρ)[i]? = _ from h)
 | .no :: ss, _ :: ρ, 0, d, h => by unfold post at h; cases h
 | .no :: ss, _ :: ρ, i + 1, d, h => by unfold post at h; show ss[i]? = _; exact post_val (show (post ss ρ)[i]? = _ from h)
 | .val _ :: ss, _ :: ρ, 0, d, h => by unfold post at h; exact h
 | .val _ :: ss, _ :: ρ, i + 1, d, h => by unfold post at h; show ss[i]? = _; exact post_val (show (post ss ρ)[i]? = _ from h)
 | .own _ :: ss, [], 0, d, h => by unfold post at h; cases h
 | .own _ :: ss, [], i + 1, d, h => by unfold post at h; show ss[i]? = _; exact post_val (show (post ss [])[i]? = _ from h)
 | .no :: ss, [], 0, d, h => by unfold post at h; cases h
 | .no :: ss, [], i + 1, d, h => by unfold post at h; show ss[i]? = _; exact post_val (show (post ss [])[i]? = _ from h)
 | .val _ :: ss, [], 0, d, h => by unfold post at h; cases h
 | .val _ :: ss, [], i + 1, d, h => by unfold post at h; show ss[i]? = _; exact post_val (show (post ss [])[i]? = _ from h)
section
variable {K : PySem.W.Frag} {c : Cn} {G G' H H' : Hp} {σ σ' : L2.St} {ρ ρ' ss : List S} {vs : List V}
theorem Rst.ext (R : Rst K c G H σ ρ) (k : Nat) : Rst K c G H (σ ++ List.replicate k none) (ρ ++ List.replicate k .no) := by
 have get : ∀ {j : Nat} {s : S}, (ρ ++ List.replicate k .no)[j]? = some s → s ≠ .no → ρ[j]? = some s ∧ (σ ++ List.replicate k none)[j]? = σ[j]? := fun {j s} h n => by
  by_cases hj : j < ρ.length
  · rw [List.getElem?_append_left hj] at h
    exact ⟨h, List.getElem?_append_left (R.len ▸ hj)⟩
  · rw [List.getElem?_append_right (by omega), List.getElem?_replicate] at h
    split at h
    · exact absurd (Option.some.inj h).symm n
    · cases h
 refine ⟨R.fh, R.gh, R.fg, by rw [List.length_append, List.length_append, List.length_replicate, List.length_replicate, R.len], fun j d h => ?_, fun j d h => ?_, fun j i d e a h1 h2 r1 r2 => ?_, fun j d h hl => ?_⟩
 · obtain ⟨h1, h2⟩ := get h (by intro z; cases z)
   rw [h2]; exact R.val j d h1
 · obtain ⟨h1, h2⟩ := get h (by intro z; cases z)
   rw [h2]; exact R.own j d h1
 · obtain ⟨k1, k2⟩ := get h1 (by intro z; cases z)
   obtain ⟨k3, k4⟩ := get h2 (by intro z; cases z)
   rw [k2] at r1
   rw [k4] at r2
   exact R.ne j i d e a k1 k3 r1 r2
 · obtain ⟨h1, h2⟩ := get h (by intro z; cases z)
   rw [h2]; exact R.par j d h1 hl
theorem Rst.posted (R0 : Rst K c G H (vs.map some) ss) (hs : c.s0 = vs.map some) (s : Same G G') (R : Rst K c G' H' σ' ρ') : Rst K c G' H' (vs.map some) (post ss ρ') := by
 have hlen : ss.length = vs.length := by rw [R0.len, List.length_map]
 have sl : c.s0.length = vs.length := by rw [hs, List.length_map]
 have same : ∀ {j : Nat} {d : D}, (post ss ρ')[j]? = some (.own d) → ρ'[j]? = some (.own d) ∧ σ'[j]? = (vs.map some)[j]? := fun {j d} h => by
  obtain ⟨h1, h2⟩ := post_own h
  exact ⟨h1, by rw [R.par j d h1 (by omega), hs]⟩
 refine ⟨R.fh, R.gh, R.fg, by rw [post_length, R0.len], fun j d h => ?_, fun j d h => ?_, fun j i d e a h1 h2 r1 r2 => ?_, fun j d h hl => by rw [hs]⟩
 · obtain ⟨v, h1, h2⟩ := R0.val j d (post_val h)
   exact ⟨v, h1, h2.mono s⟩
 · obtain ⟨h1, h2⟩ := same h
   rw [← h2]; exact R.own j d h1
 · obtain ⟨k1, k2⟩ := same h1
   obtain ⟨k3, k4⟩ := same h2
   rw [← k2] at r1
   rw [← k4] at r2
   exact R.ne j i d e a k1 k3 r1 r2
theorem RpR.posted {v : V} {r : Rv} (R0 : Rst K c G H (vs.map some) ss) (hs : c.s0 = vs.map some) (R : Rst K c G' H' σ' ρ') (na : ∀ i, r ≠ .ali i) (h : RpR K c G' H' σ' ρ' v r) : RpR K c G' H' (vs.map some) (post ss ρ') v r := by
 cases r with
 | val d => exact h
 | ali i => exact absurd rfl (na i)
 | own d =>
  obtain ⟨a, h1, h2, h3, h4, h5⟩ := h
  refine ⟨a, h1, h2, h3, h4, fun j e q z => ?_⟩
  obtain ⟨k1, k2⟩ := post_own q
  have hlen : ss.length = vs.length := by rw [R0.len, List.length_map]
  have sl : c.s0.length = vs.length := by rw [hs, List.length_map]
  refine h5 j e k1 ?_
  rw [R.par j e k1 (by omega), hs]; exact z
end
abbrev WB (E : XK) : WX := fun cls d _ H => E cls d H
section
variable {P : Program} {w : World} {K : PySem.W.Frag} {mg : Str → Option Value} {base : Heap} {x qual : Str} {params : Arguments} {body : List Stmt} {scope : Scope} {dvs : List V} {kws : List (Str × V)} {f : Addr} {fd : FuncData}
theorem fn_data {N ps : List Str} {k : Nat} {fb : MS} (F : FunD K x qual params body scope dvs kws f fd) (S : FnScope N ps scope)
  (hb : ∀ (cdv : Value) (A : Around) (outer : List Env) (s : Shared) (H : Hp) (E : XK), Room k (A.deeper (PyProof.Rows.envOfC qual scope s.heap.objs.size f cdv)) → DL (cxOf (L2N.CX P w) P w K mg base N qual scope f cdv A outer s H E) (WB E) ps.length body fb) :
  FnOk P w K mg base (L2N.CX P w) (k + 1) f fd ps (spD K ps.length (mkFn ps.length N.length fb)) := by
 refine F.ok S (fun vs H Q E h => ?_) fun cdv A outer s H vs Q E hr h => ⟨_, (hb cdv A outer s H E hr).pss, ?_⟩
 · obtain ⟨c, G, ss, o, hl, _⟩ := h
   exact hl
 · obtain ⟨c, G, ss, o, hl, hs, R, e, po⟩ := h
   unfold mkFn at e
   have hsl : ss.length = ps.length := by rw [R.len, List.length_map, hl]
   rw [if_pos hsl] at e
   have R1 := R.ext (N.length - ps.length)
   have est : L2.start N vs = vs.map some ++ List.replicate (N.length - ps.length) none := by unfold L2.start; rw [hl]
   rw [est]
   cases q : fb (ss ++ List.replicate (N.length - ps.length) .no) with
   | none => rw [q] at e; cases e
   | some os =>
    rw [q] at e
    refine ⟨c, G, _, os, by rw [hs, List.length_map, hl], R1, q, ?_⟩
    cases os with
    | nx ρ' =>
     cases e
     exact fun σ' G' H' R' s' => po .non G' H' (R.posted hs s' R') s' rfl
    | bk ρ' => cases e
    | ct ρ' => cases e
    | rt r ρ' =>
     cases r with
     | ali i => cases e
     | val d => cases e; exact fun v σ' G' H' R' s' k => po v G' H' (R.posted hs s' R') s' (RpR.posted R hs R' (fun i z => nomatch z) k)
     | own d => cases e; exact fun v σ' G' H' R' s' k => po v G' H' (R.posted hs s' R') s' (RpR.posted R hs R' (fun i z => nomatch z) k)
    | ex x ρ' => cases e; exact fun cls d σ' G' H' R' s' xa => po cls d G' H' (R.posted hs s' R') s' xa
theorem go_def {CX : CXT} {N : List Str} {k : Nat} {cdv : Value} {A : Around} {outer : List Env} {s : Shared} {H : Hp} {E : XK} (hN : N.Nodup) (hr : Room k (A.deeper (PyProof.Rows.envOfC qual scope s.heap.objs.size f cdv))) :
  Go (cxOf (L2N.CX P w) P w K mg base N qual scope f cdv A outer s H E) (WB E) :=
 ⟨L2N.takes_of rfl rfl rfl rfl, passes_of rfl, rfl, hN, by have h := hr.un; show (A.deeper (PyProof.Rows.envOfC qual scope s.heap.objs.size f cdv)).units + 65 < cLine; omega⟩
end
theorem takes0N {X : Cx} : L2N.Takes X (fun _ _ _ _ => False) := fun _ _ ⟨_, _, _, _, _, _, _, _, _, _, _, _, _, _, _, _, h⟩ => h.elim
theorem Go.blk {X : Cx} {W : WX} (go : Go X W) {s : Shared} {H : Hp} {scope : Scope} {C : Addr} {cl : List (Str × Addr)} {fp : List Addr} : Go (X.blk s H scope (compEnvC scope cl C X.env) fp) WX0 :=
 ⟨takes0N, PassesOwn.never, go.calm, go.nd, go.rm⟩
end Dl
namespace Dl
open PySem L2
def prep : List Bool → List Rv → M (List Rv)
 | _, [] => pure []
 | true :: ms, r :: rs => do
  let rs' ← prep ms rs
  pure (r :: rs')
 | ms, r :: rs => do
  let d ← toV r
  let rs' ← prep ms.tail rs
  pure (.val d :: rs')
def ssOf (ρ : List S) : Rv → Option S
 | .val d => some (.val d)
 | .ali i => match ρ[i]? with
  | some (.val d) => some (.val d)
  | some (.own d) => some (.own d)
  | _ => none
 | .own _ => none
def ssOfs (ρ : List S) : List Rv → Option (List S)
 | [] => some []
 | r :: rs => match ssOf ρ r, ssOfs ρ rs with
  | some s, some ss => some (s :: ss)
  | _, _ => none
def isAli (i : Nat) : Rv → Bool
 | .ali j => i == j
 | _ => false
def dist : List Rv → Bool
 | [] => true
 | .ali i :: rs => !rs.any (isAli i) && dist rs
 | _ :: rs => dist rs
def noAli : List Rv → Bool
 | [] => true
 | .ali _ :: _ => false
 | _ :: rs => noAli rs
def ownOr (s : S) : S := match s with
 | .own d => .own d
 | _ => .no
def back1 (i : Nat) (s : S) (ρ : List S) : List S := if isOwn ρ[i]? = true then ρ.set i (ownOr s) else ρ
def back : List Rv → List S → List S → List S
 | .ali i :: rs, s :: ss, ρ => back rs ss (back1 i s ρ)
 | .val _ :: rs, _ :: ss, ρ => back rs ss ρ
 | .own _ :: rs, _ :: ss, ρ => back rs ss ρ
 | _, _, ρ => ρ
def scaD : D → Bool
 | .non => true
 | .bl _ => true
 | .int _ => true
 | .str _ => true
 | _ => false
def scaR : Rv → Bool
 | .val d => scaD d
 | _ => false
def callM (mu : List Bool) (fn : Fn) (rs : List Rv) : M Rv := fun ρ => match prep mu rs ρ with
 | some (.ok rs' ρ1) => if dist rs' = true then (match ssOfs ρ1 rs' with
  | some ss => (match fn ss with
   | some (.ret q ss') => if (noAli rs' && scaR q) = true then some (.ok q ρ) else (match q with
    | .ali _ => none
    | q => some (.ok q (back rs' ss' ρ1)))
   | some (.ex e ss') => some (.ex e (back rs' ss' ρ1))
   | none => none)
  | none => none) else none
 | _ => none
section
variable {K : PySem.W.Frag} {c : Cn} {G G' H H' : Hp} {σ : L2.St} {ρ ρ' ss ss' : List S} {vs : List V} {rs : List Rv}
theorem prep_wp : ∀ {ms : List Bool} {rs : List Rv} {vs : List V} {G : Hp} {ρ : List S} {OK : List Rv → List S → Prop} {EX : Xn → List S → Prop}, Rst K c G H σ ρ → RpRs K G σ vs rs → wpM (prep ms rs ρ) OK EX →
  ∃ rs' G' ρ', Same G G' ∧ Rst K c G' H σ ρ' ∧ RpRs K G' σ vs rs' ∧ OK rs' ρ'
 | ms, [], vs, G, ρ, OK, EX, R, h, w => by
  have w : wpM ((pure [] : M (List Rv)) ρ) OK EX := by cases ms <;> first | exact w | (rename_i b _; cases b <;> exact w)
  exact ⟨[], G, ρ, Same.refl G, R, h, w⟩
 | true :: ms, r :: rs, vs, G, ρ, OK, EX, R, h, w => by
  obtain ⟨v, vs', rfl, h1, h2⟩ := h.cons_of
  obtain ⟨rs', G', ρ', s, R', k, w2⟩ := prep_wp R h2 (wpM_bind w)
  exact ⟨r :: rs', G', ρ', s, R', RpRs.cons (h1.mono s) k, w2⟩
 | false :: ms, r :: rs, vs, G, ρ, OK, EX, R, h, w => by
  obtain ⟨v, vs', rfl, h1, h2⟩ := h.cons_of
  obtain ⟨d, G1, ρ1, s1, R1, k1, w1⟩ := toV_wp R h1.one (wpM_bind w)
  obtain ⟨rs', G', ρ', s, R', k, w2⟩ := prep_wp R1 (h2.mono s1) (wpM_bind w1)
  exact ⟨.val d :: rs', G', ρ', s1.trans s, R', ⟨k1.mono s, k⟩, w2⟩
 | [], r :: rs, vs, G, ρ, OK, EX, R, h, w => by
  obtain ⟨v, vs', rfl, h1, h2⟩ := h.cons_of
  obtain ⟨d, G1, ρ1, s1, R1, k1, w1⟩ := toV_wp R h1.one (wpM_bind w)
  obtain ⟨rs', G', ρ', s, R', k, w2⟩ := prep_wp (ms := []) R1 (h2.mono s1) (wpM_bind w1)
  exact ⟨.val d :: rs', G', ρ', s1.trans s, R', ⟨k1.mono s, k⟩, w2⟩
theorem dargs_get : ∀ {rs : List Rv} {vs : List V} {ss : List S}, RpRs K G σ vs rs → ssOfs ρ rs = some ss → ss.length = vs.length ∧ rs.length = vs.length ∧ ∀ (j : Nat) (v : V), vs[j]? = some v →
  ∃ r s, rs[j]? = some r ∧ ss[j]? = some s ∧ ssOf ρ r = some s ∧ RpRs K G σ [v] [r]
 | [], vs, ss, h, e => by
  have e1 := h.nil_of
  subst e1
  cases e
  exact ⟨rfl, rfl, fun j v z => by cases z⟩
 | r :: rs, vs, ss, h, e => by
  obtain ⟨v, vs', rfl, h1, h2⟩ := h.cons_of
  unfold ssOfs at e
  cases e1 : ssOf ρ r with
  | none => rw [e1] at e; cases e
  | some s =>
   cases e2 : ssOfs ρ rs with
   | none => rw [e1, e2] at e; cases e
   | some ss2 =>
    rw [e1, e2] at e
    cases e
    obtain ⟨l1, l2, k⟩ := dargs_get h2 e2
    refine ⟨by rw [List.length_cons, List.length_cons, l1], by rw [List.length_cons, List.length_cons, l2], fun j u z => ?_⟩
    cases j with
    | zero => cases z; exact ⟨r, s, rfl, rfl, e1, h1⟩
    | succ j => exact k j u z
theorem dist_ne : ∀ {rs : List Rv} {i j k : Nat}, dist rs = true → rs[j]? = some (.ali i) → rs[k]? = some (.ali i) → j = k
 | [], _, _, _, _, h, _ => by cases h
 | r :: rs, i, 0, 0, _, _, _ => rfl
 | r :: rs, i, 0, k + 1, d, h, h' => by
  cases h
  obtain ⟨d1, _⟩ := Bool.and_eq_true_iff.mp (show (!rs.any (isAli i) && dist rs) = true from d)
  exfalso
  have hm : Rv.ali i ∈ rs := List.mem_of_getElem? (show rs[k]? = _ from h')
  have : rs.any (isAli i) = true := List.any_eq_true.mpr ⟨_, hm, by simp [isAli]⟩
  rw [this] at d1; cases d1
 | r :: rs, i, j + 1, 0, d, h, h' => by
  cases h'
  obtain ⟨d1, _⟩ := Bool.and_eq_true_iff.mp (show (!rs.any (isAli i) && dist rs) = true from d)
  exfalso
  have hm : Rv.ali i ∈ rs := List.mem_of_getElem? (show rs[j]? = _ from h)
  have : rs.any (isAli i) = true := List.any_eq_true.mpr ⟨_, hm, by simp [isAli]⟩
  rw [this] at d1; cases d1
 | r :: rs, i, j + 1, k + 1, d, h, h' => by
  have d2 : dist rs = true := by
   cases r with
   | ali n => exact (Bool.and_eq_true_iff.mp (show (!rs.any (isAli n) && dist rs) = true from d)).2
   | val n => exact d
   | own n => exact d
  rw [dist_ne d2 (show rs[j]? = _ from h) (show rs[k]? = _ from h')]
theorem noAli_not : ∀ {rs : List Rv} {i j : Nat}, noAli rs = true → rs[j]? ≠ some (.ali i)
 | [], _, _, _, h => by cases h
 | .ali n :: rs, _, _, d, _ => by cases d
 | .val n :: rs, i, 0, d, h => by cases h
 | .val n :: rs, i, j + 1, d, h => noAli_not (show noAli rs = true from d) (show rs[j]? = _ from h)
 | .own n :: rs, i, 0, d, h => by cases h
 | .own n :: rs, i, j + 1, d, h => noAli_not (show noAli rs = true from d) (show rs[j]? = _ from h)
theorem back1_get {i : Nat} {s : S} {k : Nat} {t : S} (h : (back1 i s ρ)[k]? = some t) : (k ≠ i ∧ ρ[k]? = some t) ∨ (k = i ∧ isOwn ρ[i]? = true ∧ (t = .no ∨ ∃ d : D, t = .own d ∧ s = .own d)) ∨ (k = i ∧ isOwn ρ[i]? = false ∧ ρ[k]? = some t) := by
 unfold back1 at h
 split at h
 · rename_i ho
   rcases set_cases h with ⟨e1, _, e2⟩ | ⟨e1, e2⟩
   · refine .inr (.inl ⟨e1, ho, ?_⟩)
     cases s with
     | own d => exact .inr ⟨d, e2, rfl⟩
     | no => exact .inl e2
     | val d => exact .inl e2
   · exact .inl ⟨e1, e2⟩
 · rename_i ho
   by_cases hk : k = i
   · exact .inr (.inr ⟨hk, by simpa using ho, h⟩)
   · exact .inl ⟨hk, h⟩
theorem back1_length {i : Nat} {s : S} : (back1 i s ρ).length = ρ.length := by
 unfold back1
 split
 · rw [List.length_set]
 · rfl
theorem back_length : ∀ {rs : List Rv} {ss ρ : List S}, (back rs ss ρ).length = ρ.length
 | .ali i :: rs, s :: ss, ρ => by unfold back; rw [back_length, back1_length]
 | .val _ :: rs, _ :: ss, ρ => by unfold back; exact back_length
 | .own _ :: rs, _ :: ss, ρ => by unfold back; exact back_length
 | [], _, ρ => rfl
 | .ali i :: rs, [], ρ => rfl
 | .val _ :: rs, [], ρ => rfl
 | .own _ :: rs, [], ρ => rfl
theorem back_get : ∀ {rs : List Rv} {ss ρ : List S} {k : Nat} {t : S}, (back rs ss ρ)[k]? = some t → t ≠ .no →
  (ρ[k]? = some t ∧ ((∃ d, t = .val d) ∨ ∀ j : Nat, j < ss.length → rs[j]? ≠ some (.ali k))) ∨ ∃ (j : Nat) (d : D), t = .own d ∧ rs[j]? = some (.ali k) ∧ ss[j]? = some (.own d) ∧ ∃ e, ρ[k]? = some (.own e)
 | .ali i :: rs, s :: ss, ρ, k, t, h, n => by
  unfold back at h
  rcases back_get h n with ⟨h1, h2⟩ | ⟨j, d, h1, h2, h3, e, h4⟩
  · rcases back1_get h1 with ⟨hk, h3⟩ | ⟨hk, ho, h3⟩ | ⟨hk, ho, h3⟩
    · refine .inl ⟨h3, ?_⟩
      rcases h2 with h2 | h2
      · exact .inl h2
      · refine .inr fun j hj z => ?_
        cases j with
        | zero => cases z; exact hk rfl
        | succ j => exact h2 j (Nat.lt_of_succ_lt_succ hj) z
    · rcases h3 with h3 | ⟨d, h3, h4⟩
      · exact absurd h3 n
      · subst hk
        refine .inr ⟨0, d, h3, rfl, by rw [h4]; rfl, ?_⟩
        cases q : ρ[k]? with
        | none => rw [q] at ho; cases ho
        | some x => rw [q] at ho; cases x with
         | own e => exact ⟨e, rfl⟩
         | no => cases ho
         | val e => cases ho
    · refine .inl ⟨h3, .inl ?_⟩
      subst hk
      cases t with
      | val d => exact ⟨d, rfl⟩
      | no => exact absurd rfl n
      | own d => rw [h3] at ho; cases ho
  · refine .inr ⟨j + 1, d, h1, h2, h3, ?_⟩
    rcases back1_get h4 with ⟨hk, h5⟩ | ⟨hk, ho, h5⟩ | ⟨hk, ho, h5⟩
    · exact ⟨e, h5⟩
    · subst hk
      cases q : ρ[k]? with
      | none => rw [q] at ho; cases ho
      | some x => rw [q] at ho; cases x with
       | own e => exact ⟨e, rfl⟩
       | no => cases ho
       | val e => cases ho
    · exact ⟨e, h5⟩
 | .val _ :: rs, _ :: ss, ρ, k, t, h, n => by
  unfold back at h
  rcases back_get h n with ⟨h1, h2⟩ | ⟨j, d, h1, h2, h3, h4⟩
  · refine .inl ⟨h1, ?_⟩
    rcases h2 with h2 | h2
    · exact .inl h2
    · refine .inr fun j hj z => ?_
      cases j with
      | zero => cases z
      | succ j => exact h2 j (Nat.lt_of_succ_lt_succ hj) z
  · exact .inr ⟨j + 1, d, h1, h2, h3, h4⟩
 | .own _ :: rs, _ :: ss, ρ, k, t, h, n => by
  unfold back at h
  rcases back_get h n with ⟨h1, h2⟩ | ⟨j, d, h1, h2, h3, h4⟩
  · refine .inl ⟨h1, ?_⟩
    rcases h2 with h2 | h2
    · exact .inl h2
    · refine .inr fun j hj z => ?_
      cases j with
      | zero => cases z
      | succ j => exact h2 j (Nat.lt_of_succ_lt_succ hj) z
  · exact .inr ⟨j + 1, d, h1, h2, h3, h4⟩
 | [], ss, ρ, k, t, h, n => .inl ⟨h, .inr fun j _ z => by cases z⟩
 | .ali i :: rs, [], ρ, k, t, h, n => .inl ⟨h, .inr fun j hj => absurd hj (Nat.not_lt_zero _)⟩
 | .val i :: rs, [], ρ, k, t, h, n => .inl ⟨h, .inr fun j hj => absurd hj (Nat.not_lt_zero _)⟩
 | .own i :: rs, [], ρ, k, t, h, n => .inl ⟨h, .inr fun j hj => absurd hj (Nat.not_lt_zero _)⟩
def Handed (σ : L2.St) (ρ : List S) (H : Hp) (rs : List Rv) (x : Addr) : Prop := ∃ (j i : Nat) (d : D) (a : Addr), rs[j]? = some (.ali i) ∧ ρ[i]? = some (.own d) ∧ σ[i]? = some (some (.ref a)) ∧ (x = a ∨ ∃ C fs, H a = some (.ins C x fs))
open Classical in
noncomputable def calleeF (σ : L2.St) (ρ : List S) (G H : Hp) (rs : List Rv) : Hp := fun x => if (∃ o, G x = some o) ∨ Handed σ ρ H rs x then none else H x
theorem calleeF_some {x : Addr} {o : HO} (h : calleeF σ ρ G H rs x = some o) : G x = none ∧ ¬ Handed σ ρ H rs x ∧ H x = some o := by
 unfold calleeF at h
 split at h
 · cases h
 · rename_i hn
   refine ⟨?_, fun z => hn (.inr z), h⟩
   cases q : G x with
   | none => rfl
   | some u => exact absurd (.inl ⟨u, q⟩) hn
theorem calleeF_of {x : Addr} {o : HO} (h1 : G x = none) (h2 : ¬ Handed σ ρ H rs x) (h3 : H x = some o) : calleeF σ ρ G H rs x = some o := by
 unfold calleeF
 rw [if_neg (fun z => by
  rcases z with ⟨u, z⟩ | z
  · rw [h1] at z; cases z
  · exact h2 z)]
 exact h3
theorem handed_f (R : Rst K c G H σ ρ) {x : Addr} (h : Handed σ ρ H rs x) : c.F x = none := by
 obtain ⟨j, i, d, a, h1, h2, h3, h4⟩ := h
 obtain ⟨a', k1, k2, k3, k4⟩ := R.own i d h2
 rw [h3] at k1; cases k1
 rcases h4 with rfl | ⟨C, fs, h4⟩
 · exact k3
 · cases d with
   | lst ds => obtain ⟨xs, q, _⟩ := k4; rw [h4] at q; cases q
   | dic ks vs => obtain ⟨xs, q, _⟩ := k4; rw [h4] at q; cases q
   | ndi ks vs => obtain ⟨xs, q, _⟩ := k4; rw [h4] at q; cases q
   | obj cc ns ds => obtain ⟨dx, xs, q1, q2, q3, q4, _⟩ := k4; rw [h4] at q1; cases q1; exact q4
   | _ => exact k4.elim
theorem frame_in (R : Rst K c G H σ ρ) {x : Addr} {o : HO} (h : c.F x = some o) : calleeF σ ρ G H rs x = some o :=
 calleeF_of (R.fg _ _ h) (fun z => by rw [handed_f R z] at h; cases h) (R.fh _ _ h)
theorem own_in (R : Rst K c G H σ ρ) {k : Nat} {d : D} {a : Addr} (h : ρ[k]? = some (.own d)) (hs : σ[k]? = some (some (.ref a))) (n : ∀ j : Nat, rs[j]? ≠ some (.ali k)) : ∃ o, calleeF σ ρ G H rs a = some o ∧ ∀ b, H b = some (.own a) → G b = none → calleeF σ ρ G H rs b = some (.own a) := by
 obtain ⟨a', k1, k2, k3, k4⟩ := R.own k d h
 rw [hs] at k1; cases k1
 obtain ⟨o, ho, hno⟩ := k4.at
 refine ⟨o, calleeF_of k2 (fun ⟨j, i, e, b, h1, h2, h3, h4⟩ => ?_) ho, fun b hb gb => calleeF_of gb (fun ⟨j, i, e, b', h1, h2, h3, h4⟩ => ?_) hb⟩
 · rcases h4 with rfl | ⟨C, fs, h4⟩
   · exact n j (by rw [h1, R.ne i k e d a h2 h h3 hs])
   · obtain ⟨b', q1, q2, q3, q4⟩ := R.own i e h2
     rw [h3] at q1; cases q1
     cases e with
     | lst ds => obtain ⟨xs, z, _⟩ := q4; rw [h4] at z; cases z
     | dic ks vs => obtain ⟨xs, z, _⟩ := q4; rw [h4] at z; cases z
     | ndi ks vs => obtain ⟨xs, z, _⟩ := q4; rw [h4] at z; cases z
     | obj cc ns ds =>
      obtain ⟨dx, xs, z1, z2, _⟩ := q4
      rw [h4] at z1; cases z1
      rw [ho] at z2; exact hno b (Option.some.inj z2)
     | _ => exact q4.elim
 · obtain ⟨b2, q1, q2, q3, q4⟩ := R.own i e h2
   rw [h3] at q1; cases q1
   rcases h4 with rfl | ⟨C, fs, h4⟩
   · obtain ⟨o2, ho2, hno2⟩ := q4.at
     rw [hb] at ho2; exact hno2 a (Option.some.inj ho2).symm
   · cases e with
     | lst ds => obtain ⟨xs, z, _⟩ := q4; rw [h4] at z; cases z
     | dic ks vs => obtain ⟨xs, z, _⟩ := q4; rw [h4] at z; cases z
     | ndi ks vs => obtain ⟨xs, z, _⟩ := q4; rw [h4] at z; cases z
     | obj cc ns ds =>
      obtain ⟨dx, xs, z1, z2, _⟩ := q4
      rw [h4] at z1; cases z1
      rw [hb] at z2; cases z2
      exact n j (by rw [h1, R.ne i k (.obj cc ns ds) d a h2 h h3 hs])
     | _ => exact q4.elim
theorem ow_frame {F F' : Hp} {a : Addr} {d : D} (h : Ow K F G H a d) (le : ∀ x o, F' x = some o → F x = some o) : Ow K F' G H a d := h.fmono fun b _ fb => by
 cases q : F' b with
 | none => rfl
 | some o => rw [le b o q] at fb; cases fb
theorem Rst.callee (R : Rst K c G H σ ρ) (hv : RpRs K G σ vs rs) (hd : dist rs = true) (hs : ssOfs ρ rs = some ss) : Rst K ⟨calleeF σ ρ G H rs, vs.map some⟩ G H (vs.map some) ss := by
 obtain ⟨l1, l2, get⟩ := dargs_get hv hs
 have gets : ∀ {j : Nat} {s : S}, ss[j]? = some s → ∃ v r, vs[j]? = some v ∧ rs[j]? = some r ∧ ssOf ρ r = some s ∧ RpRs K G σ [v] [r] := fun {j s} h => by
  have hj : j < vs.length := by
   have := (List.getElem?_eq_some_iff.mp h).1
   omega
  obtain ⟨r, s', k1, k2, k3, k4⟩ := get j vs[j] (List.getElem?_eq_getElem hj)
  rw [h] at k2; cases k2
  exact ⟨vs[j], r, List.getElem?_eq_getElem hj, k1, k3, k4⟩
 have own : ∀ {j : Nat} {d : D}, ss[j]? = some (.own d) → ∃ (i : Nat) (a : Addr), rs[j]? = some (.ali i) ∧ ρ[i]? = some (.own d) ∧ σ[i]? = some (some (.ref a)) ∧ vs[j]? = some (.ref a) := fun {j d} h => by
  obtain ⟨v, r, k1, k2, k3, k4⟩ := gets h
  cases r with
  | val e => cases k3
  | own e => cases k3
  | ali i =>
   unfold ssOf at k3
   dsimp only at k3
   cases q : ρ[i]? with
   | none => rw [q] at k3; cases k3
   | some x =>
    rw [q] at k3
    cases x with
    | no => cases k3
    | val e => cases k3
    | own e =>
     cases k3
     obtain ⟨a, m1, _⟩ := R.own i _ q
     have m2 : σ[i]? = some (some v) := k4.1
     rw [m1] at m2; cases m2
     exact ⟨i, a, k2, q, m1, k1⟩
 refine ⟨fun x o h => (calleeF_some h).2.2, R.gh, fun x o h => (calleeF_some h).1, by rw [List.length_map, l1], fun j d h => ?_, fun j d h => ?_, fun j k d e a h1 h2 r1 r2 => ?_, fun j d h hl => rfl⟩
 · obtain ⟨v, r, k1, k2, k3, k4⟩ := gets h
   refine ⟨v, by rw [List.getElem?_map, k1]; rfl, ?_⟩
   cases r with
   | val e => cases k3; exact k4.1
   | own e => cases k3
   | ali i =>
    unfold ssOf at k3
    dsimp only at k3
    cases q : ρ[i]? with
    | none => rw [q] at k3; cases k3
    | some x =>
     rw [q] at k3
     cases x with
     | no => cases k3
     | own e => cases k3
     | val e =>
      cases k3
      obtain ⟨u, m1, m3⟩ := R.val i _ q
      have m2 : σ[i]? = some (some v) := k4.1
      rw [m1] at m2; cases m2
      exact m3
 · obtain ⟨i, a, k1, k2, k3, k4⟩ := own h
   obtain ⟨a', m1, m2, m3, m4⟩ := R.own i d k2
   rw [k3] at m1; cases m1
   have hh : ∀ x, (x = a ∨ ∃ C fs, H a = some (.ins C x fs)) → calleeF σ ρ G H rs x = none := fun x hx => by
    unfold calleeF
    rw [if_pos (.inr ⟨j, i, d, a, k1, k2, k3, hx⟩)]
   refine ⟨a, by rw [List.getElem?_map, k4]; rfl, m2, hh a (.inl rfl), ?_⟩
   cases d with
   | lst ds => exact m4
   | dic ks vs => exact m4
   | ndi ks vs => exact m4
   | obj cc ns ds =>
    obtain ⟨dx, xs, z1, z2, z3, z4, z5⟩ := m4
    exact ⟨dx, xs, z1, z2, z3, hh dx (.inr ⟨_, _, z1⟩), z5⟩
   | _ => exact m4.elim
 · obtain ⟨i, b, k1, k2, k3, k4⟩ := own h1
   obtain ⟨i', b', m1, m2, m3, m4⟩ := own h2
   rw [List.getElem?_map, k4] at r1
   rw [List.getElem?_map, m4] at r2
   have e1 : b = a := by simpa using r1
   have e2 : b' = a := by simpa using r2
   subst e1
   subst e2
   have hi := R.ne i i' d e b' k2 m2 k3 m3
   subst hi
   exact dist_ne hd k1 m1
theorem Rst.called (R : Rst K c G H σ ρ) (hv : RpRs K G σ vs rs) (hs : ssOfs ρ rs = some ss) (s : Same G G') (R' : Rst K ⟨calleeF σ ρ G H rs, vs.map some⟩ G' H' (vs.map some) ss') : Rst K c G' H' σ (back rs ss' ρ) := by
 obtain ⟨l1, l2, get⟩ := dargs_get hv hs
 have l3 : ss'.length = vs.length := by rw [R'.len, List.length_map]
 have le : ∀ x o, c.F x = some o → calleeF σ ρ G H rs x = some o := fun x o h => frame_in R h
 have arg : ∀ {j i : Nat}, rs[j]? = some (.ali i) → ∃ v, vs[j]? = some v ∧ σ[i]? = some (some v) := fun {j i} h => by
  have hj : j < vs.length := by
   have := (List.getElem?_eq_some_iff.mp h).1
   omega
  obtain ⟨r, s', k1, k2, k3, k4⟩ := get j vs[j] (List.getElem?_eq_getElem hj)
  rw [h] at k1; cases k1
  exact ⟨vs[j], List.getElem?_eq_getElem hj, k4.1⟩
 have own : ∀ {k : Nat} {d : D}, (back rs ss' ρ)[k]? = some (.own d) → (ρ[k]? = some (.own d) ∧ ∀ j : Nat, rs[j]? ≠ some (.ali k)) ∨ ∃ (j : Nat) (e : D), rs[j]? = some (.ali k) ∧ ss'[j]? = some (.own d) ∧ ρ[k]? = some (.own e) := fun {k d} h => by
  rcases back_get h (by intro z; cases z) with ⟨h1, h2⟩ | ⟨j, d', h1, h2, h3, e, h4⟩
  · rcases h2 with ⟨d', h2⟩ | h2
    · cases h2
    · refine .inl ⟨h1, fun j z => ?_⟩
      have hj : j < ss'.length := by
       have := (List.getElem?_eq_some_iff.mp z).1
       omega
      exact h2 j hj z
  · cases h1
    exact .inr ⟨j, e, h2, h3, h4⟩
 refine ⟨fun x o h => R'.fh x o (le x o h), R'.gh, fun x o h => R'.fg x o (le x o h), by rw [back_length, R.len], fun k d h => ?_, fun k d h => ?_, fun k k' d d' a h1 h2 r1 r2 => ?_, fun k d h hl => ?_⟩
 · rcases back_get h (by intro z; cases z) with ⟨h1, _⟩ | ⟨j, d', h1, _⟩
   · obtain ⟨v, q1, q2⟩ := R.val k d h1
     exact ⟨v, q1, q2.mono s⟩
   · cases h1
 · rcases own h with ⟨h1, h2⟩ | ⟨j, e, h1, h2, h3⟩
   · obtain ⟨a, q1, q2, q3, q4⟩ := R.own k d h1
     obtain ⟨o, z1, z2⟩ := own_in R h1 q1 h2
     refine ⟨a, q1, R'.fg _ _ z1, q3, ?_⟩
     have ha : H' a = H a := by rw [R'.fh _ _ z1, (calleeF_some z1).2.2]
     cases d with
     | lst ds => obtain ⟨xs, y1, y2⟩ := q4; exact ⟨xs, by rw [ha]; exact y1, y2.mono s⟩
     | dic ks vs => obtain ⟨xs, y1, y2, y3⟩ := q4; exact ⟨xs, by rw [ha]; exact y1, y2.mono s, y3.mono s⟩
     | ndi ks vs => obtain ⟨xs, y1, y0, y2, y3⟩ := q4; exact ⟨xs, by rw [ha]; exact y1, y0, y2.mono s, y3.mono s⟩
     | obj cc ns ds =>
      obtain ⟨dx, xs, y1, y2, y3, y4, y5, y6, y7⟩ := q4
      have zd := z2 dx y2 y3
      exact ⟨dx, xs, by rw [ha]; exact y1, R'.fh _ _ zd, R'.fg _ _ zd, y4, y5, y6, y7.mono s⟩
     | _ => exact q4.elim
   · obtain ⟨v, m1, m2⟩ := arg h1
     obtain ⟨a, q1, q2, q3, q4⟩ := R'.own j d h2
     rw [List.getElem?_map, m1] at q1
     have e1 : v = .ref a := by simpa using q1
     subst e1
     refine ⟨a, m2, q2, ?_, ow_frame q4 le⟩
     cases q : c.F a with
     | none => rfl
     | some o => exact nomatch (show (none : Option HO) = some o from q3.symm.trans (le a o q))
 ·
   have hid : ∀ {k j : Nat} {d : D}, rs[j]? = some (.ali k) → ss'[j]? = some (.own d) → σ[k]? = some (some (.ref a)) → (vs.map some)[j]? = some (some (.ref a)) := fun {k j d} h1 h2 h3 => by
    obtain ⟨v, m1, m2⟩ := arg h1
    rw [h3] at m2; cases m2
    rw [List.getElem?_map, m1]; rfl
   rcases own h1 with ⟨p1, p2⟩ | ⟨j, e, p1, p2, p3⟩
   · rcases own h2 with ⟨q1, q2⟩ | ⟨j', e', q1, q2, q3⟩
     · exact R.ne k k' d d' a p1 q1 r1 r2
     · exact R.ne k k' d e' a p1 q3 r1 r2
   · rcases own h2 with ⟨q1, q2⟩ | ⟨j', e', q1, q2, q3⟩
     · exact R.ne k k' e d' a p3 q1 r1 r2
     · exact R.ne k k' e e' a p3 q3 r1 r2
 · rcases own h with ⟨h1, _⟩ | ⟨j, e, _, _, h3⟩
   · exact R.par k d h1 hl
   · exact R.par k e h3 hl
theorem RpR.called {v : V} {r : Rv} (R : Rst K c G H σ ρ) (hv : RpRs K G σ vs rs) (hs : ssOfs ρ rs = some ss) (R' : Rst K ⟨calleeF σ ρ G H rs, vs.map some⟩ G' H' (vs.map some) ss') (na : ∀ i, r ≠ .ali i) (h : RpR K ⟨calleeF σ ρ G H rs, vs.map some⟩ G' H' (vs.map some) ss' v r) : RpR K c G' H' σ (back rs ss' ρ) v r := by
 cases r with
 | val d => exact h
 | ali i => exact absurd rfl (na i)
 | own d =>
  obtain ⟨a, h1, h2, h3, h4, h5⟩ := h
  have le : ∀ x o, c.F x = some o → calleeF σ ρ G H rs x = some o := fun x o h => frame_in R h
  refine ⟨a, h1, h2, ?_, ow_frame h4 le, fun k e q z => ?_⟩
  · cases q : c.F a with
    | none => rfl
    | some o => exact nomatch (show (none : Option HO) = some o from h3.symm.trans (le a o q))
  · obtain ⟨l1, l2, get⟩ := dargs_get hv hs
    have l3 : ss'.length = vs.length := by rw [R'.len, List.length_map]
    rcases back_get q (by intro z; cases z) with ⟨p1, p2⟩ | ⟨j, d', p1, p2, p3, e', p4⟩
    · rcases p2 with ⟨d', p2⟩ | p2
      · cases p2
      · obtain ⟨o, z1, z2⟩ := own_in (rs := rs) R p1 z (fun j zz => p2 j (by
          have := (List.getElem?_eq_some_iff.mp zz).1
          omega) zz)
        exact nomatch (show (none : Option HO) = some o from h3.symm.trans z1)
    · cases p1
      have hj : j < vs.length := by
       have := (List.getElem?_eq_some_iff.mp p2).1
       omega
      obtain ⟨r, s', k1, k2, k3, k4⟩ := get j vs[j] (List.getElem?_eq_getElem hj)
      rw [p2] at k1; cases k1
      have k5 : σ[k]? = some (some vs[j]) := k4.1
      rw [z] at k5
      have e5 : vs[j] = .ref a := by simpa using k5.symm
      exact h5 j e p3 (by rw [List.getElem?_map, List.getElem?_eq_getElem hj, e5]; rfl)
theorem Rst.grown (R : Rst K c G H σ ρ) (s : Same H H') : Rst K c G H' σ ρ where
 fh := R.fh.trans s
 gh := R.gh.trans s
 fg := R.fg
 len := R.len
 val := R.val
 own := fun i d e => by
  obtain ⟨a, h1, h2, h3, h4⟩ := R.own i d e
  refine ⟨a, h1, h2, h3, ?_⟩
  cases d with
  | lst ds => obtain ⟨xs, q1, q2⟩ := h4; exact ⟨xs, s _ _ q1, q2⟩
  | obj c ns ds => obtain ⟨dx, xs, q1, q2, q3, q4, q5, q6, q7⟩ := h4; exact ⟨dx, xs, s _ _ q1, s _ _ q2, q3, q4, q5, q6, q7⟩
  | dic ks vs => obtain ⟨kvs, q1, q2, q3⟩ := h4; exact ⟨kvs, s _ _ q1, q2, q3⟩
  | ndi ks vs => obtain ⟨kvs, q1, q2⟩ := h4; exact ⟨kvs, s _ _ q1, q2⟩
  | _ => exact h4.elim
 ne := R.ne
 par := R.par
theorem sca_rp {d : D} {v : V} (h : scaD d = true) (k : Rp K G d v) : Rp K G' d v := by
 cases d <;> first | exact k | cases h
end
structure DF (P : Program) (w : World) (K : PySem.W.Frag) (mg : Str → Option Value) (base : Heap) (x : Str) (k np : Nat) (fn : Fn) : Prop where
 len : ∀ ss o, fn ss = some o → ss.length = np
 ex : ∃ (f : Addr) (fd : FuncData) (ps : List Str), mg x = some (.ref f) ∧ PySem.W.keepIn K (.ref f) = true ∧ Binds K fd ps [] ∧ FnOk P w K mg base (L2N.CX P w) k f fd ps (spD K np fn)
theorem wish_of {X : Cx} {W : WX} (tk : L2N.Takes X W) (σ : L2.St) : PassesAt (L2N.CX X.prog X.w) X σ (WE W σ) := L2N.passAt tk σ
theorem call_sp {X : Cx} {W : WX} {np : Nat} {fn : Fn} {mu : List Bool} {c : Cn} {G0 G H : Hp} {σ : L2.St} {ρ : List S} {rs : List Rv} {vs : List V} {Q : VK} (R : Rst X.K c G H σ ρ) (s0 : Same G0 G) (hv : RpRs X.K G σ vs rs) (hl : ∀ ss o, fn ss = some o → ss.length = np)
  (w : wpM (callM mu fn rs ρ) (fun r ρ' => ∀ v G' H', Rst X.K c G' H' σ ρ' → Same G0 G' → RpR X.K c G' H' σ ρ' v r → Q v H') (EXk X.K c W σ G0)) : spD X.K np fn vs H Q (WE W σ) := by
 unfold callM at w
 have wp : wpM (prep mu rs ρ) (fun rs' ρ1 => wpM (if dist rs' = true then (match ssOfs ρ1 rs' with
  | some ss => (match fn ss with
   | some (.ret q ss') => if (noAli rs' && scaR q) = true then some (.ok q ρ) else (match q with
    | .ali _ => none
    | q => some (.ok q (back rs' ss' ρ1)))
   | some (.ex e ss') => some (.ex e (back rs' ss' ρ1))
   | none => none)
  | none => none) else none) (fun r ρ' => ∀ v G' H', Rst X.K c G' H' σ ρ' → Same G0 G' → RpR X.K c G' H' σ ρ' v r → Q v H') (EXk X.K c W σ G0)) (fun _ _ => False) := by
  cases q : prep mu rs ρ with
  | none => rw [q] at w; exact w
  | some o => cases o with
   | ok a ρ1 => rw [q] at w; exact w
   | ex e ρ1 => rw [q] at w; exact w.elim
 obtain ⟨rs', G1, ρ1, s1, R1, k1, w1⟩ := prep_wp R hv wp
 by_cases hd : dist rs' = true
 · rw [if_pos hd] at w1
   cases hs : ssOfs ρ1 rs' with
   | none => rw [hs] at w1; exact w1.elim
   | some ss =>
    rw [hs] at w1
    dsimp only at w1
    cases hf : fn ss with
    | none => rw [hf] at w1; exact w1.elim
    | some o =>
     rw [hf] at w1
     refine ⟨⟨calleeF σ ρ1 G1 H rs', vs.map some⟩, G1, ss, o, by rw [← hl ss o hf]; exact (dargs_get k1 hs).1.symm, rfl, R1.callee k1 hd hs, hf, ?_⟩
     cases o with
     | ret q ss' =>
      intro v G' H' R' s' kq
      dsimp only at w1
      by_cases hc : (noAli rs' && scaR q) = true
      · rw [if_pos hc] at w1
        obtain ⟨h1, h2⟩ := Bool.and_eq_true_iff.mp hc
        have same : Same H H' := fun x o hx => by
         cases g : G1 x with
         | some u =>
          have e1 := R1.gh _ _ g
          rw [hx] at e1; cases e1
          exact R'.gh _ _ (s' _ _ g)
         | none => exact R'.fh _ _ (calleeF_of g (fun ⟨j, i, d, a, z, _⟩ => noAli_not h1 z) hx)
        have Rq : Rst X.K c G H' σ ρ := R.grown same
        cases q with
        | val d => exact w1 v G H' Rq s0 (sca_rp h2 kq)
        | own d => cases h2
        | ali i => cases h2
      · rw [if_neg hc] at w1
        cases q with
        | ali i => exact w1.elim
        | val d => exact w1 v G' H' (R1.called k1 hs s' R') ((s0.trans s1).trans s') (RpR.called R1 k1 hs R' (fun i z => nomatch z) kq)
        | own d => exact w1 v G' H' (R1.called k1 hs s' R') ((s0.trans s1).trans s') (RpR.called R1 k1 hs R' (fun i z => nomatch z) kq)
     | ex e ss' =>
      intro cls d G' H' R' s' xa
      exact w1 cls d G' H' (R1.called k1 hs s' R') ((s0.trans s1).trans s') xa
 · rw [if_neg hd] at w1; exact w1.elim
def eCall (mu : List Bool) (fn : Fn) (ga : M (List Rv)) : M Rv := do
 let rs ← ga
 callM mu fn rs
section
variable {X : Cx} {W : WX} {x : Str} {k np : Nat} {fn : Fn} {mu : List Bool} {e : Expr} {es : List Expr} {ga : M (List Rv)} {p pos : Pos}
theorem de_call (mu : List Bool) (go : Go X W) (F : DF X.prog X.w X.K X.mg X.base x k np fn) (hr : Room k X.A) (hg : Gl X x) (ha : DA X W (e :: es) ga)
  (hdb : (x == ("__debug__" : Str)) = false := by decide) (he : starEach (e :: es) X.env = (false, eval e X.env) :: starEach es X.env := by rfl) (hpl : (backTo pos (starEach es X.env)).any (·.1) = false := by rfl) :
  DE X W (.Call (.Name x p) (e :: es) [] pos) (eCall mu fn ga) := by
 obtain ⟨f, fd, ps, hm, hk, hb, FO⟩ := F.ex
 refine ⟨(pe_callSD (E := WE W) FO hr hg hm hk hb .nil (wish_of go.tk) ha.pa hdb he hpl).weak fun σ H Q ⟨c, G, ρ, R, w⟩ => ?_⟩
 refine tg_step R (Same.refl G) w fun rs ρ1 vs G1 H1 R1 s1 _ k1 w1 => ?_
 rw [List.append_nil]
 exact call_sp R1 s1 k1 F.len w1
end
end Dl
namespace Dl
open PySem L2
section
variable {K : PySem.W.Frag} {c : Cn} {G G' H H' : Hp} {σ : L2.St} {ρ : List S} {a p : Addr} {d d' : D} {o' : HO} {i : Nat} {v : V}
theorem Rst.own_store (R : Rst K c G H σ ρ) (h : ρ[i]? = some (.own d)) (hs : σ[i]? = some (some (.ref a))) (hw : Ow K c.F G (upd H a o') a d') : Rst K c G (upd H a o') σ (ρ.set i (.own d')) := by
 obtain ⟨a', k1, k2, k3, k4⟩ := R.own i d h
 rw [hs] at k1; cases k1
 obtain ⟨oa, hoa, hno⟩ := k4.at
 have hl : i < ρ.length := (List.getElem?_eq_some_iff.mp h).1
 have oth : ∀ {j : Nat} {e : D}, (ρ.set i (.own d'))[j]? = some (.own e) → (j = i ∧ e = d') ∨ (j ≠ i ∧ ρ[j]? = some (.own e)) := fun {j e} q => by
  rcases set_cases q with ⟨q1, _, q2⟩ | q
  · cases q2; exact .inl ⟨q1, rfl⟩
  · exact .inr q
 refine ⟨fun b u e => by rw [upd_ne (ne_of_none e k3)]; exact R.fh _ _ e, fun b u e => by rw [upd_ne (ne_of_none e k2)]; exact R.gh _ _ e, R.fg, by rw [List.length_set, R.len], fun j e q => ?_, fun j e q => ?_, fun j k e f b q1 q2 r1 r2 => ?_, fun j e q hlt => ?_⟩
 · rcases set_cases q with ⟨_, _, q2⟩ | ⟨_, q⟩
   · cases q2
   · exact R.val j e q
 · rcases oth q with ⟨rfl, rfl⟩ | ⟨hj, q⟩
   · exact ⟨a, hs, k2, k3, hw⟩
   · obtain ⟨b, m1, m2, m3, m4⟩ := R.own j e q
     have nb : b ≠ a := fun z => by subst z; exact hj (R.ne j i e d b q h m1 hs)
     refine ⟨b, m1, m2, m3, ?_⟩
     cases e with
     | lst ds => obtain ⟨xs, z1, z2⟩ := m4; exact ⟨xs, by rw [upd_ne nb]; exact z1, z2⟩
     | dic ks vs => obtain ⟨xs, z1, z2⟩ := m4; exact ⟨xs, by rw [upd_ne nb]; exact z1, z2⟩
     | ndi ks vs => obtain ⟨xs, z1, z2⟩ := m4; exact ⟨xs, by rw [upd_ne nb]; exact z1, z2⟩
     | obj cc ns ds =>
      obtain ⟨dx, xs, z1, z2, z3⟩ := m4
      have nd : dx ≠ a := fun z => by subst z; rw [hoa] at z2; exact hno b (Option.some.inj z2)
      exact ⟨dx, xs, by rw [upd_ne nb]; exact z1, by rw [upd_ne nd]; exact z2, z3⟩
     | _ => exact m4.elim
 · have back : ∀ {j : Nat} {e : D}, (ρ.set i (.own d'))[j]? = some (.own e) → ∃ e', ρ[j]? = some (.own e') := fun {j e} q => by
     rcases oth q with ⟨rfl, rfl⟩ | ⟨hj, q⟩
     · exact ⟨d, h⟩
     · exact ⟨e, q⟩
   obtain ⟨e', q1'⟩ := back q1
   obtain ⟨f', q2'⟩ := back q2
   exact R.ne j k e' f' b q1' q2' r1 r2
 · rcases oth q with ⟨rfl, rfl⟩ | ⟨hj, q⟩
   · exact R.par j d h hlt
   · exact R.par j e q hlt
end
def ownLst (r : Rv) (ρ : List S) : Option (Nat × List D) := match r with
 | .ali i => match ρ[i]? with
  | some (.own (.lst ds)) => some (i, ds)
  | _ => none
 | _ => none
theorem ownLst_ok {K : PySem.W.Frag} {c : Cn} {G H : Hp} {σ : L2.St} {ρ : List S} {v : V} {r : Rv} {i : Nat} {ds : List D} (R : Rst K c G H σ ρ) (k : RpRs K G σ [v] [r]) (e : ownLst r ρ = some (i, ds)) :
  ∃ a xs, v = .ref a ∧ σ[i]? = some (some (.ref a)) ∧ ρ[i]? = some (.own (.lst ds)) ∧ H a = some (.lst xs) ∧ RpL K G ds xs := by
 cases r with
 | val d => cases e
 | own d => cases e
 | ali j =>
  unfold ownLst at e
  dsimp only at e
  cases q : ρ[j]? with
  | none => rw [q] at e; cases e
  | some s =>
   rw [q] at e
   cases s with
   | no => cases e
   | val d => cases e
   | own d =>
    cases d <;> first
     | (cases e; done)
     | (cases e
        obtain ⟨a, h1, h2, h3, xs, h4, h5⟩ := R.own _ _ q
        have h6 : σ[_]? = some (some v) := k.1
        rw [h1] at h6
        have h7 : v = .ref a := by simpa using h6.symm
        exact ⟨a, xs, h7, h1, q, h4, h5⟩)
theorem Rst.lst_store {K : PySem.W.Frag} {c : Cn} {G H : Hp} {σ : L2.St} {ρ : List S} {i : Nat} {ds ds' : List D} {a : Addr} {xs' : List V} (R : Rst K c G H σ ρ) (hs : σ[i]? = some (some (.ref a))) (h : ρ[i]? = some (.own (.lst ds))) (r : RpL K G ds' xs') :
  Rst K c G (upd H a (.lst xs')) σ (ρ.set i (.own (.lst ds'))) := R.own_store h hs ⟨xs', upd_same, r⟩
def ckL (r : Rv) : M Unit := fun ρ => match ownLst r ρ with
 | some _ => some (.ok () ρ)
 | none => none
def mAppend (fo fa : M Rv) : M Rv := do
 let r ← fo
 ckL (settle r)
 let x ← fa
 let d ← toV (settle x)
 fun ρ => match ownLst (settle r) ρ with
  | some (i, ds) => if ds.length < sizeLine then some (.ok (.val .non) (ρ.set i (.own (.lst (ds ++ [d]))))) else none
  | none => none
def mExtend (fo fa : M Rv) : M Rv := do
 let r ← fo
 ckL (settle r)
 let x ← fa
 let d ← peek (settle x)
 fun ρ => match ownLst (settle r) ρ, d with
  | some (i, ds), .lst es => if ds.length + es.length ≤ sizeLine then some (.ok (.val .non) (ρ.set i (.own (.lst (ds ++ es))))) else none
  | _, _ => none
def mClear (fo : M Rv) : M Rv := do
 let r ← fo
 ckL (settle r)
 fun ρ => match ownLst (settle r) ρ with
  | some (i, ds) => some (.ok (.val .non) (ρ.set i (.own (.lst []))))
  | none => none
theorem ckL_wp {K : PySem.W.Frag} {c : Cn} {G H : Hp} {σ : L2.St} {ρ : List S} {v : V} {r : Rv} {OK : Unit → List S → Prop} {EX : Xn → List S → Prop} (R : Rst K c G H σ ρ) (k : RpRs K G σ [v] [r]) (w : wpM (ckL r ρ) OK EX) : tyV K "list" v H ∧ OK () ρ := by
 unfold ckL at w
 cases e : ownLst r ρ with
 | none => rw [e] at w; exact w.elim
 | some q =>
  rw [e] at w
  obtain ⟨a, xs, rfl, _, _, h, _⟩ := ownLst_ok (i := q.1) (ds := q.2) R k e
  exact ⟨.inl ⟨rfl, xs, .inl (.inl h)⟩, w⟩
section
variable {X : Cx} {W : WX} {np : Nat} {o e a b : Expr} {es : List Expr} {fo fa fb : M Rv} {ga : M (List Rv)} {pos apos cpos p : Pos}
theorem de_append (ho : DE X W o fo) (ha : DE X W e fa) (hbase : attributeBase o "append" X.env (eval o X.env) = eval o X.env := by rfl)
  (hfew : ((backTo cpos (starEach [e] X.env)).all (fun x => !x.1) && (backToKw cpos (keywordEach [] X.env)).all (fun x => x.1.isSome) && decide ([e].length + ([] : List Keyword).length + (if ([] : List Keyword).isEmpty then 0 else 1) < 30)) = true := by rfl)
  (hline : (apos.endLine == cpos.line) = true := by rfl) (hs : starEach [e] X.env = (false, eval e X.env) :: starEach [] X.env := by rfl) (hplain : (backTo cpos (starEach [] X.env)).any (·.1) = false := by rfl) : DE X W (.Call (.Attribute o "append" apos) [e] [] cpos) (mAppend fo fa) :=
 ⟨(pe_bm PySem.F.plainAttrs_list PySem.F.slot_list_append PySem.F.type_list_append mt_append ho.pe (pa_cons ha.pe pa_nil hs) hbase hfew hline hs hplain).weak fun σ H Q ⟨c, G, ρ, R, w⟩ => by
  refine tg_step R (Same.refl G) w fun r ρ1 v G1 H1 R1 s1 _ k1 w1 => ?_
  obtain ⟨G1', s1', R1', k1'⟩ := settle_ok R1 k1
  obtain ⟨ty, w1⟩ := ckL_wp R1' k1' (wpM_bind w1)
  refine ⟨ty, ?_⟩
  refine tg_step R1' (s1.trans s1') w1 fun x ρ2 u G2 H2 R2 s2 s12 k2 w2 => ?_
  obtain ⟨G2', s2', R2', k2'⟩ := settle_ok R2 k2
  obtain ⟨d, G3, ρ3, s3, R3, k3, w3⟩ := toV_wp R2' k2'.one (wpM_bind w2)
  cases e1 : ownLst (settle r) ρ3 with
  | none => rw [e1] at w3; exact w3.elim
  | some q =>
   obtain ⟨i, ds⟩ := q
   rw [e1] at w3
   dsimp only at w3
   obtain ⟨a, xs, rfl, hs, hr, ha, hx⟩ := ownLst_ok R3 (((k1'.mono s12).mono s2').mono s3) e1
   by_cases hz : ds.length < sizeLine
   · rw [if_pos hz] at w3
     refine ⟨a, xs, u, rfl, rfl, ha, by rw [hx.length]; exact hz, ?_⟩
     exact w3 _ G3 _ (R3.lst_store hs hr (hx.append (RpL.one k3))) ((s2.trans s2').trans s3) rfl
   · rw [if_neg hz] at w3; exact w3.elim⟩
def sSetIx (fa fo fi : M Rv) : MS := thenS fa fun x => thenS (toV x) fun d => thenS fo fun r => thenS fi fun j => thenS (peek (settle j)) fun e ρ =>
 match ownLst (settle r) ρ, e with
  | some (i, ds), .int k => (ixN ds.length k).map fun n => .nx (ρ.set i (.own (.lst (ds.set n d))))
  | _, _ => none
theorem ds_setIx (ha : DE X W e fa) (ho : DE X W o fo) (hi : DE X W a fb) (hset : ∀ v, assign (.Subscript o a pos) X.env v = (do
      let ov ← holding [v] (eval o X.env)
      let iv ← holding [v, ov] (eval a X.env)
      standAt pos
      holding [v, ov, iv] (setItem ov iv v)
      release [v, ov, iv] []) := by intro _; rfl) (hs : swapsWithSole [.Subscript o a pos] e p.line X.env = pure false := by rfl) (hw : swappedStores [.Subscript o a pos] e X.env = pure none := by rfl)
  (h1 : (assignEach [.Subscript o a pos] X.env).map (·.2) = [assign (.Subscript o a pos) X.env] := by rfl) : DS X W np (.Assign [.Subscript o a pos] e p) (sSetIx fa fo fb) :=
 ⟨(ps_asg ha.pe (pg_sub ho.pe hi.pe set_list hset) hs hw h1).weak fun Dn σ H ⟨c, G, ρ, os, hl, R, h, po⟩ => by
  refine tS_step R h po fun x ρ1 v G1 H1 R1 s1 k1 h1 po1 => ?_
  obtain ⟨d, G2, ρ2, s2, R2, k2, h2⟩ := toV_wp R1 k1 (thenS_wp h1)
  refine tS_step R2 h2 (po1.mono s2) fun r ρ3 u G3 H3 R3 s3 k3 h3 po3 => ?_
  obtain ⟨G3', s3', R3', k3'⟩ := settle_ok R3 k3
  refine tS_step R3' h3 (po3.mono s3') fun j ρ4 t G4 H4 R4 s4 k4 h4 po4 => ?_
  obtain ⟨G4', s4', R4', k4'⟩ := settle_ok R4 k4
  obtain ⟨e', ke, h5⟩ := peek_wp R4' k4'.one (thenS_wp h4)
  cases e1 : ownLst (settle r) ρ4 with
  | none => rw [e1] at h5; cases h5
  | some q =>
   obtain ⟨i, ds⟩ := q
   rw [e1] at h5
   cases e' <;> first
    | (cases h5; done)
    | (rename_i n
       dsimp only at h5
       obtain ⟨b, xs, rfl, hs, hr, hb, hx⟩ := ownLst_ok R4' ((k3'.mono s4).mono s4') e1
       cases e2 : ixN ds.length n with
       | none => rw [e2] at h5; cases h5
       | some m =>
        rw [e2] at h5
        cases h5
        refine ⟨b, xs, n, m, rfl, ke.int, hb, by rw [hx.length]; exact e2, ?_⟩
        exact po4 σ G4' _ (R4'.lst_store hs hr (hx.set m (k2.mono (((s3.trans s3').trans s4).trans s4')))) s4')⟩
end
end Dl
namespace Dl
open PySem L2
def lkF (f : Str) : List Str → List D → Option D
 | n :: ns, d :: ds => if n = f then some d else lkF f ns ds
 | _, _ => none
def putF2 (f : Str) (d : D) : List Str → List D → List Str × List D
 | n :: ns, e :: ds => if n = f then (n :: ns, d :: ds) else (n :: (putF2 f d ns ds).1, e :: (putF2 f d ns ds).2)
 | _, _ => ([f], [d])
section
variable {K : PySem.W.Frag} {G : Hp}
theorem lkF_ok {f : Str} {d : D} : ∀ {ns : List Str} {ds : List D} {xs : List V}, RpL K G ds xs → lkF f ns ds = some d → ∃ v, (ns.zip xs).lookup f = some v ∧ Rp K G d v
 | [], _, _, _, e => by cases e
 | _ :: _, [], _, _, e => by cases e
 | n :: ns, e :: ds, _, ⟨x, r, h1, h2, h3⟩, q => by
  subst h1
  unfold lkF at q
  by_cases hn : n = f
  · rw [if_pos hn] at q
    cases q
    subst hn
    exact ⟨x, by simp [List.zip_cons_cons, List.lookup], h2⟩
  · rw [if_neg hn] at q
    obtain ⟨v, k1, k2⟩ := lkF_ok h3 q
    refine ⟨v, ?_, k2⟩
    rw [List.zip_cons_cons]
    have hb : (f == n) = false := beq_eq_false_iff_ne.mpr (Ne.symm hn)
    simp only [List.lookup, hb]
    exact k1
theorem putF2_ok {f : Str} {d : D} {v : V} (hd : Rp K G d v) : ∀ {ns : List Str} {ds : List D} {xs : List V}, ns.length = ds.length → RpL K G ds xs →
  ∃ ys, putF f v (ns.zip xs) = (putF2 f d ns ds).1.zip ys ∧ (putF2 f d ns ds).1.length = (putF2 f d ns ds).2.length ∧ RpL K G (putF2 f d ns ds).2 ys
 | [], [], _, _, h => by cases h; exact ⟨[v], rfl, rfl, v, [], rfl, hd, rfl⟩
 | [], _ :: _, _, hl, _ => by cases hl
 | _ :: _, [], _, hl, _ => by cases hl
 | n :: ns, e :: ds, _, hl, ⟨x, r, h1, h2, h3⟩ => by
  subst h1
  rw [List.zip_cons_cons]
  unfold putF putF2
  by_cases hn : n = f
  · rw [if_pos hn, if_pos hn]
    exact ⟨v :: r, by rw [List.zip_cons_cons], by simpa using hl, v, r, rfl, hd, h3⟩
  · rw [if_neg hn, if_neg hn]
    obtain ⟨ys, k1, k2, k3⟩ := putF2_ok hd (ns := ns) (ds := ds) (xs := r) (by simpa using hl) h3
    exact ⟨x :: ys, by rw [List.zip_cons_cons, k1], by simpa using k2, x, ys, rfl, h2, k3⟩
end
abbrev Flds : Type := List Str
structure FldOk (K : PySem.W.Frag) (cs : Flds) (f : Str) : Prop where
 ok : ∀ n ∈ cs, Cls K (He.ga K n) ∧ NoAttr K (He.ga K n) f
def eFld (cs : Flds) (f : Str) (fa : M Rv) : M Rv := do
 let r ← fa
 let d ← peek r
 match d with
 | .obj n ns ds => if n ∈ cs then ofO ((lkF f ns ds).map .val) else M.fail
 | _ => M.fail
section
variable {X : Cx} {W : WX} {np : Nat} {o e a b : Expr} {es : List Expr} {fo fa fb : M Rv} {ga : M (List Rv)} {pos apos cpos p : Pos} {cs : Flds} {f m : Str}
theorem de_fld (hc : FldOk X.K cs f) (ha : DE X W e fa) (hb : attributeBase e f X.env (eval e X.env) = eval e X.env := by rfl) : DE X W (.Attribute e f pos) (eFld cs f fa) :=
 ⟨(pe_fld ha.pe hb).weak fun σ H Q ⟨c, G, ρ, R, w⟩ => by
  refine tg_step R (Same.refl G) w fun r ρ1 v G1 H1 R1 s1 _ k1 w1 => ?_
  obtain ⟨d, kd, w2⟩ := peek_wp R1 k1 (wpM_bind w1)
  cases d <;> first
   | exact w2.elim
   | (rename_i n ns ds
      dsimp only at w2
      by_cases hn : n ∈ cs
      · rw [if_pos hn] at w2
        obtain ⟨q, e1, w3⟩ := ofO_wp w2
        obtain ⟨d, e2, e3⟩ := Option.map_eq_some_iff.mp e1
        subst e3
        have go : ∀ {a : Addr} {dx : Addr} {xs : List V}, H1 a = some (.ins (He.ga X.K n) dx (ns.zip xs)) → RpL X.K G1 ds xs → v = .ref a → ∃ a C dx fs u, v = V.ref a ∧ H1 a = some (.ins C dx fs) ∧ Cls X.K C ∧ NoAttr X.K C f ∧ fs.lookup f = some u ∧ Q u H1 := fun {a dx xs} h1 h2 h3 => by
         obtain ⟨u, k2, k3⟩ := lkF_ok h2 e2
         exact ⟨a, _, dx, _, u, h3, h1, (hc.ok n hn).1, (hc.ok n hn).2, k2, w3 u G1 H1 R1 s1 k3⟩
        obtain ⟨a, dx, xs, h1, h2, _, h4⟩ := kd.obj R1.gh
        exact go h2 h4 h1
      · rw [if_neg hn] at w2; exact w2.elim)⟩
def ownObj (r : Rv) (ρ : List S) : Option (Nat × Str × List Str × List D) := match r with
 | .ali i => match ρ[i]? with
  | some (.own (.obj n ns ds)) => some (i, n, ns, ds)
  | _ => none
 | _ => none
def sSetF (cs : Flds) (f : Str) (fo fa : M Rv) : MS := thenS fa fun x => thenS (toV x) fun d => thenS fo fun r ρ =>
 match ownObj (settle r) ρ with
  | some (i, n, ns, ds) => if n ∈ cs ∧ ns.length < 1000 then some (.nx (ρ.set i (.own (.obj n (putF2 f d ns ds).1 (putF2 f d ns ds).2)))) else none
  | none => none
theorem ownObj_ok {K : PySem.W.Frag} {c : Cn} {G H : Hp} {σ : L2.St} {ρ : List S} {v : V} {r : Rv} {i : Nat} {n : Str} {ns : List Str} {ds : List D} (R : Rst K c G H σ ρ) (k : RpRs K G σ [v] [r]) (e : ownObj r ρ = some (i, n, ns, ds)) :
  ∃ a dx xs, v = .ref a ∧ σ[i]? = some (some (.ref a)) ∧ ρ[i]? = some (.own (.obj n ns ds)) ∧ H a = some (.ins (He.ga K n) dx (ns.zip xs)) ∧ H dx = some (.own a) ∧ G dx = none ∧ c.F dx = none ∧ dx ≠ a ∧ ns.length = ds.length ∧ RpL K G ds xs := by
 cases r with
 | val d => cases e
 | own d => cases e
 | ali j =>
  unfold ownObj at e
  dsimp only at e
  cases q : ρ[j]? with
  | none => rw [q] at e; cases e
  | some s =>
   rw [q] at e
   cases s with
   | no => cases e
   | val d => cases e
   | own d =>
    cases d <;> first
     | (cases e; done)
     | (cases e
        obtain ⟨a, h1, h2, h3, dx, xs, h4⟩ := R.own _ _ q
        have h6 : σ[_]? = some (some v) := k.1
        rw [h1] at h6
        have h7 : v = .ref a := by simpa using h6.symm
        exact ⟨a, dx, xs, h7, h1, q, h4⟩)
theorem ds_setF (hc : FldOk X.K cs f) (ho : DE X W o fo) (ha : DE X W e fa) (hs : swapsWith e (some (.Attribute o f p)) pos.line X.env = pure false := by rfl) : DS X W np (.Assign [.Attribute o f p] e pos) (sSetF cs f fo fa) :=
 ⟨(ps_fld ho.pe ha.pe hs).weak fun Dn σ H ⟨c, G, ρ, os, hl, R, h, po⟩ => by
  refine tS_step R h po fun x ρ1 v G1 H1 R1 s1 k1 h1 po1 => ?_
  obtain ⟨d, G2, ρ2, s2, R2, k2, h2⟩ := toV_wp R1 k1 (thenS_wp h1)
  refine tS_step R2 h2 (po1.mono s2) fun r ρ3 u G3 H3 R3 s3 k3 h3 po3 => ?_
  obtain ⟨G3', s3', R3', k3'⟩ := settle_ok R3 k3
  have po3' := po3.mono s3'
  cases e1 : ownObj (settle r) ρ3 with
  | none => rw [e1] at h3; cases h3
  | some q =>
   obtain ⟨i, n, ns, ds⟩ := q
   rw [e1] at h3
   dsimp only at h3
   by_cases hn : n ∈ cs ∧ ns.length < 1000
   · rw [if_pos hn] at h3
     cases h3
     obtain ⟨a, dx, xs, rfl, m1, m2, m3, m4, m5, m6, m7, m8, m9⟩ := ownObj_ok R3' k3' e1
     obtain ⟨ys, y1, y2, y3⟩ := putF2_ok (f := f) (k2.mono (s3.trans s3')) m8 m9
     refine ⟨a, _, dx, _, rfl, m3, (hc.ok n hn.1).1, (hc.ok n hn.1).2, ?_, ?_⟩
     · rw [List.length_zip]
       exact Nat.lt_of_le_of_lt (Nat.min_le_left _ _) hn.2
     · refine po3' σ G3' _ (R3'.own_store m2 m1 ⟨dx, ys, by rw [upd_same, y1], by rw [upd_ne m7]; exact m4, m5, m6, m7, y2, y3⟩) (Same.refl G3')
   · rw [if_neg hn] at h3; cases h3⟩
end
section
variable {K : PySem.W.Frag} {c : Cn} {G G' H H' : Hp} {σ : L2.St} {ρ : List S} {x dx : Addr}
theorem snoc_get {α : Type} {l : List α} {a : α} {i : Nat} {b : α} (h : (l ++ [a])[i]? = some b) : (i < l.length ∧ l[i]? = some b) ∨ (i = l.length ∧ b = a) := by
 by_cases hi : i < l.length
 · rw [List.getElem?_append_left hi] at h; exact .inl ⟨hi, h⟩
 · rw [List.getElem?_append_right (by omega)] at h
   have : i - l.length = 0 := by
    cases q : i - l.length with
    | zero => rfl
    | succ n => rw [q] at h; cases h
   rw [this] at h
   cases h
   exact .inr ⟨by omega, rfl⟩
theorem Rst.snoc {v : V} {d : D} (R : Rst K c G H σ ρ) (hp : c.s0.length ≤ σ.length) (h : RpR K c G H σ ρ v (.own d)) : Rst K c G H (σ ++ [some v]) (ρ ++ [.own d]) := by
 obtain ⟨a, rfl, h2, h3, h4, h5⟩ := h
 have hlen : (ρ ++ [S.own d]).length = (σ ++ [some (V.ref a)]).length := by rw [List.length_append, List.length_append, R.len]; rfl
 have sg : ∀ {j : Nat}, j < ρ.length → (σ ++ [some (V.ref a)])[j]? = σ[j]? := fun {j} hj => List.getElem?_append_left (R.len ▸ hj)
 have sl : (σ ++ [some (V.ref a)])[ρ.length]? = some (some (V.ref a)) := by rw [R.len, List.getElem?_append_right (Nat.le_refl _), Nat.sub_self]; rfl
 refine ⟨R.fh, R.gh, R.fg, hlen, fun j e q => ?_, fun j e q => ?_, fun j k e f b q1 q2 r1 r2 => ?_, fun j e q hl => ?_⟩
 · rcases snoc_get q with ⟨hj, q⟩ | ⟨_, q⟩
   · rw [sg hj]; exact R.val j e q
   · cases q
 · rcases snoc_get q with ⟨hj, q⟩ | ⟨hj, q⟩
   · rw [sg hj]; exact R.own j e q
   · cases q; subst hj; exact ⟨a, sl, h2, h3, h4⟩
 · rcases snoc_get q1 with ⟨hj, q1⟩ | ⟨hj, q1⟩
   · rw [sg hj] at r1
     rcases snoc_get q2 with ⟨hk, q2⟩ | ⟨hk, q2⟩
     · rw [sg hk] at r2; exact R.ne j k e f b q1 q2 r1 r2
     · subst hk; rw [sl] at r2; cases r2; exact absurd r1 (h5 j e q1)
   · rcases snoc_get q2 with ⟨hk, q2⟩ | ⟨hk, q2⟩
     · rw [sg hk] at r2; subst hj; rw [sl] at r1; cases r1; exact absurd r2 (h5 k f q2)
     · rw [hj, hk]
 · rcases snoc_get q with ⟨hj, q⟩ | ⟨hj, _⟩
   · rw [sg hj]; exact R.par j e q hl
   · have := R.len
     omega
theorem Rst.unsnoc {s : S} {v : Option V} (R : Rst K c G H (σ ++ [v]) (ρ ++ [s])) : Rst K c G H σ ρ := by
 have hl : ρ.length = σ.length := by
  have := R.len
  rw [List.length_append, List.length_append] at this
  simpa using this
 have up : ∀ {j : Nat} {t : S}, ρ[j]? = some t → (ρ ++ [s])[j]? = some t ∧ (σ ++ [v])[j]? = σ[j]? := fun {j t} h => by
  have hj := (List.getElem?_eq_some_iff.mp h).1
  exact ⟨by rw [List.getElem?_append_left hj]; exact h, List.getElem?_append_left (hl ▸ hj)⟩
 refine ⟨R.fh, R.gh, R.fg, hl, fun j e q => ?_, fun j e q => ?_, fun j k e f b q1 q2 r1 r2 => ?_, fun j e q hlt => ?_⟩
 · obtain ⟨h1, h2⟩ := up q
   rw [← h2]; exact R.val j e h1
 · obtain ⟨h1, h2⟩ := up q
   rw [← h2]; exact R.own j e h1
 · obtain ⟨h1, h2⟩ := up q1
   obtain ⟨h3, h4⟩ := up q2
   rw [← h2] at r1
   rw [← h4] at r2
   exact R.ne j k e f b h1 h3 r1 r2
 · obtain ⟨h1, h2⟩ := up q
   rw [← h2]; exact R.par j e h1 hlt
theorem Rst.last {d : D} {v : V} (R : Rst K c G H (σ ++ [some v]) (ρ ++ [.own d])) : RpR K c G H σ ρ v (.own d) := by
 have hl : ρ.length = σ.length := by
  have := R.len
  rw [List.length_append, List.length_append] at this
  simpa using this
 have l1 : (ρ ++ [S.own d])[ρ.length]? = some (.own d) := by rw [List.getElem?_append_right (Nat.le_refl _), Nat.sub_self]; rfl
 have l2 : (σ ++ [some v])[ρ.length]? = some (some v) := by rw [hl, List.getElem?_append_right (Nat.le_refl _), Nat.sub_self]; rfl
 obtain ⟨a, h1, h2, h3, h4⟩ := R.own _ _ l1
 rw [l2] at h1
 have e : v = .ref a := by simpa using h1
 subst e
 refine ⟨a, rfl, h2, h3, h4, fun j e q z => ?_⟩
 have hj := (List.getElem?_eq_some_iff.mp q).1
 have := R.ne j ρ.length e d a (by rw [List.getElem?_append_left hj]; exact q) l1 (by rw [List.getElem?_append_left (hl ▸ hj)]; exact z) l2
 omega
theorem Rst.made (R : Rst K c G H σ ρ) (hx : H x = none) (hdx : H dx = none) (ne : dx ≠ x) {n : Str} : Rst K c G (upd (upd H dx (.own x)) x (.ins (He.ga K n) dx [])) σ ρ ∧ RpR K c G (upd (upd H dx (.own x)) x (.ins (He.ga K n) dx [])) σ ρ (.ref x) (.own (.obj n [] [])) := by
 have hx1 : upd H dx (.own x) x = none := by rw [upd_ne (Ne.symm ne)]; exact hx
 have R1 := (R.laid (o := .own x) hdx).laid (o := .ins (He.ga K n) dx []) hx1
 refine ⟨R1, x, rfl, R.g_none hx, R.f_none hx, ⟨dx, [], upd_same, by rw [upd_ne ne, upd_same], R.g_none hdx, R.f_none hdx, ne, rfl, rfl⟩, R.not_slot hx⟩
theorem back1_snoc {i : Nat} {s t : S} (hi : i < ρ.length) : back1 i s (ρ ++ [t]) = back1 i s ρ ++ [t] := by
 unfold back1
 rw [List.getElem?_append_left hi]
 split
 · rw [List.set_append_left _ _ hi]
 · rfl
theorem back_snoc : ∀ {rs : List Rv} {ss : List S} {ρ : List S} {t : S}, (∀ i, Rv.ali i ∈ rs → i < ρ.length) → back rs ss (ρ ++ [t]) = back rs ss ρ ++ [t]
 | .ali i :: rs, s :: ss, ρ, t, h => by
  unfold back
  rw [back1_snoc (h i (by simp))]
  exact back_snoc fun j hj => by rw [back1_length]; exact h j (by simp [hj])
 | .val _ :: rs, _ :: ss, ρ, t, h => by unfold back; exact back_snoc fun j hj => h j (by simp [hj])
 | .own _ :: rs, _ :: ss, ρ, t, h => by unfold back; exact back_snoc fun j hj => h j (by simp [hj])
 | [], _, ρ, t, h => rfl
 | .ali i :: rs, [], ρ, t, h => rfl
 | .val _ :: rs, [], ρ, t, h => rfl
 | .own _ :: rs, [], ρ, t, h => rfl
end
def makeM (n : Str) (mu : List Bool) (fn : Fn) (rs : List Rv) : M Rv := fun ρ => match prep mu rs ρ with
 | some (.ok rs' ρ1) => if dist rs' = true then (match ssOfs ρ1 rs' with
  | some ss => (match fn (.own (.obj n [] []) :: ss) with
   | some (.ret (.val .non) (.own d :: ss')) => some (.ok (.own d) (back rs' ss' ρ1))
   | some (.ex e (_ :: ss')) => some (.ex e (back rs' ss' ρ1))
   | _ => none)
  | none => none) else none
 | _ => none
theorem ssOf_lt {ρ : List S} {i : Nat} {s : S} (h : ssOf ρ (.ali i) = some s) : i < ρ.length := by
 unfold ssOf at h
 dsimp only at h
 cases q : ρ[i]? with
 | none => rw [q] at h; cases h
 | some t => exact (List.getElem?_eq_some_iff.mp q).1
theorem ssOfs_lt {ρ : List S} : ∀ {rs : List Rv} {ss : List S}, ssOfs ρ rs = some ss → ∀ i, Rv.ali i ∈ rs → i < ρ.length
 | [], _, _, i, hi => by cases hi
 | r :: rs, ss, h, i, hi => by
  unfold ssOfs at h
  cases e1 : ssOf ρ r with
  | none => rw [e1] at h; cases h
  | some s =>
   cases e2 : ssOfs ρ rs with
   | none => rw [e1, e2] at h; cases h
   | some ss2 =>
    rcases List.mem_cons.mp hi with e | hi
    · subst e; exact ssOf_lt e1
    · exact ssOfs_lt e2 i hi
theorem ssOf_snoc {ρ : List S} {t : S} {r : Rv} {s : S} (h : ssOf ρ r = some s) : ssOf (ρ ++ [t]) r = some s := by
 cases r with
 | val d => exact h
 | own d => exact h
 | ali i =>
  have hi := ssOf_lt h
  unfold ssOf at h ⊢
  dsimp only at h ⊢
  rw [List.getElem?_append_left hi]; exact h
theorem ssOfs_snoc {ρ : List S} {t : S} : ∀ {rs : List Rv} {ss : List S}, ssOfs ρ rs = some ss → ssOfs (ρ ++ [t]) rs = some ss
 | [], _, h => h
 | r :: rs, ss, h => by
  unfold ssOfs at h ⊢
  cases e1 : ssOf ρ r with
  | none => rw [e1] at h; cases h
  | some s =>
   cases e2 : ssOfs ρ rs with
   | none => rw [e1, e2] at h; cases h
   | some ss2 =>
    rw [e1, e2] at h
    rw [ssOf_snoc e1, ssOfs_snoc e2]; exact h
theorem RpRs.snoc {K : PySem.W.Frag} {G : Hp} {σ : L2.St} {v : Option V} : ∀ {vs : List V} {rs : List Rv}, RpRs K G σ vs rs → RpRs K G (σ ++ [v]) vs rs
 | [], [], _ => trivial
 | u :: vs, .val d :: rs, ⟨h1, h2⟩ => ⟨h1, h2.snoc⟩
 | u :: vs, .ali i :: rs, ⟨h1, h2⟩ => ⟨by rw [List.getElem?_append_left (List.getElem?_eq_some_iff.mp h1).1]; exact h1, h2.snoc⟩
 | [], _ :: _, h => h.elim
 | _ :: _, [], h => h.elim
 | _ :: _, .own _ :: _, h => h.elim
section
variable {X : Cx} {W : WX} {x : Str} {k np : Nat} {fn : Fn} {mu : List Bool} {e o : Expr} {es : List Expr} {ga : M (List Rv)} {p pos : Pos}
structure DM (P : Program) (w : World) (K : PySem.W.Frag) (mg : Str → Option Value) (base : Heap) (x : Str) (k np : Nat) (fn : Fn) : Prop where
 len : ∀ ss o, fn ss = some o → ss.length = np
 ex : ∃ (f : Addr) (fd : FuncData) (ps : List Str), mg x = some (.ref (He.ga K x)) ∧ Mk K (He.ga K x) f ∧ Binds K fd ps [] ∧ FnOk P w K mg base (L2N.CX P w) k f fd ps (spD K np fn)
def tMakeS (C : Addr) (sp : Sp) (E : L2.St → XK) (t : TA) : TE := fun σ H Q => t σ H fun vs H1 => ∀ x dx, H1 x = none → H1 dx = none → dx ≠ x →
 sp (.ref x :: vs) (upd (upd H1 dx (.own x)) x (.ins C dx [])) (fun v H2 => v = .non ∧ Q (.ref x) H2) (E σ)
theorem run_makeS {C f : Addr} {fd : FuncData} {ps : List Str} {sp : Sp} {E : L2.St → XK} {CXx : CXT} {pins : List (Addr × Obj)} {σ : L2.St} {H : Hp} {s : Shared} {Q : VK} {us : List Value} {vs : List V} (Mx : Mk X.K C f) (F : FnOk X.prog X.w X.K X.mg X.base CXx k f fd ps sp) (hr : Room (k + 1) X.A) (hb : Binds X.K fd ps [])
  (hx : PassesAt CXx X σ (E σ)) (I : Inv X pins σ H s) (r : Vals vs us)
  (h : ∀ x dx, H x = none → H dx = none → dx ≠ x → sp (.ref x :: vs) (upd (upd H dx (.own x)) x (.ins C dx [])) (fun v H2 => v = .non ∧ Q (.ref x) H2) (E σ)) :
  wpAny (model X.prog X.w) X.A (call (.ref C) us) (EP X pins σ Q) X.xe s := by
 have hq := h (s.heap.objs.size + 1) s.heap.objs.size (I.hok.fresh (Nat.le_succ _)) (I.hok.fresh (Nat.le_refl _)) (Nat.ne_of_lt (Nat.lt_succ_self _))
 have I2 := Inv.made (C := C) I
 have r2 : Vals (V.ref (s.heap.objs.size + 1) :: vs) (Value.ref (s.heap.objs.size + 1) :: us) := .cons rfl r
 have hl : (Value.ref (s.heap.objs.size + 1) :: us).length = ps.length := by
  have e := r2.length
  rw [F.len _ _ _ _ hq] at e
  exact e.symm
 refine wpAny_call (make_map (f := f) I.kIn Mx.makes Mx.init (beq_iff_eq.mp Mx.fn) (codeAny_mono (F.run _ X.stack _ _ ⟨Value.ref (s.heap.objs.size + 1) :: us, []⟩ (Value.ref (s.heap.objs.size + 1) :: us) _ _ (E σ) (hr.make C us [])
  (I2.env0.make C us []) (by
   have := hb _ (Value.ref (s.heap.objs.size + 1) :: us) I2.kIn (by rw [List.append_nil]; exact hl)
   rw [List.append_nil] at this; exact this) r2 hq) fun r s' hq' => ?_))
 cases r with
 | error e => exact hx pins _ _ e s' I2 hq'
 | ok fl =>
  cases fl with
  | ret u =>
   obtain ⟨v, H', I3, rv, ev, q3⟩ := I2.after hq'
   subst ev
   exact ⟨rv, ⟨V.ref (s.heap.objs.size + 1), H', I3, rfl, q3⟩⟩
  | next => exact False.elim hq'
  | brk => exact False.elim hq'
  | cont => exact False.elim hq'
theorem pe_makeS {C f : Addr} {fd : FuncData} {ps : List Str} {sp : Sp} {E : L2.St → XK} {CXx : CXT} {t : TA} (Mx : Mk X.K C f) (F : FnOk X.prog X.w X.K X.mg X.base CXx k f fd ps sp) (hr : Room (k + 1) X.A) (hg : Gl X x) (hm : X.mg x = some (.ref C)) (hb : Binds X.K fd ps []) (hx : ∀ σ, PassesAt CXx X σ (E σ))
  (ha : PA X (e :: es) t) (hdb : (x == ("__debug__" : Str)) = false := by decide) (he : starEach (e :: es) X.env = (false, eval e X.env) :: starEach es X.env := by rfl) (hpl : (backTo pos (starEach es X.env)).any (·.1) = false := by rfl) :
  PE X (.Call (.Name x p) (e :: es) [] pos) (tMakeS C sp E t) := by
 refine ⟨fun pins s σ H Q I h => ?_⟩
 refine wpAny_Call_Name_kw (ld_glob I hg hm ?_ hdb)
 refine PySem.W.callWith_K (h₀ := X.base) I.ok.mod.kin Mx.kp (thn (ha.run pos pins s σ H _ I h) fun us s1 ⟨vs, H1, I1, r, q⟩ => ⟨I1.kIn, ?_⟩) he hpl
 exact run_makeS Mx F hr hb (hx σ) I1 r q
def eMake (n : Str) (mu : List Bool) (fn : Fn) (ga : M (List Rv)) : M Rv := do
 let rs ← ga
 makeM n mu fn rs
def Cn.cut (c : Cn) (n : Nat) : Cn := { c with s0 := c.s0.take n }
theorem Rst.cut {K : PySem.W.Frag} {c : Cn} {G H : Hp} {σ : L2.St} {ρ : List S} (R : Rst K c G H σ ρ) : Rst K (c.cut σ.length) G H σ ρ :=
 ⟨R.fh, R.gh, R.fg, R.len, R.val, R.own, R.ne, fun i d e hl => by
  have h1 : i < (c.s0.take σ.length).length := hl
  rw [List.length_take] at h1
  show σ[i]? = (c.s0.take σ.length)[i]?
  rw [List.getElem?_take_of_lt (by omega)]
  exact R.par i d e (by omega)⟩
theorem Rst.uncut {K : PySem.W.Frag} {c : Cn} {G H : Hp} {σ : L2.St} {ρ : List S} (R : Rst K (c.cut σ.length) G H σ ρ) : Rst K c G H σ ρ :=
 ⟨R.fh, R.gh, R.fg, R.len, R.val, R.own, R.ne, fun i d e hl => by
  have hi : i < σ.length := by
   rw [← R.len]; exact (List.getElem?_eq_some_iff.mp e).1
  have h2 : i < (c.cut σ.length).s0.length := by
   show i < (c.s0.take σ.length).length
   rw [List.length_take]; omega
  have h3 : σ[i]? = (c.s0.take σ.length)[i]? := R.par i d e h2
  rw [h3, List.getElem?_take_of_lt hi]⟩
theorem make_sp {c : Cn} {G0 G H : Hp} {σ : L2.St} {ρ : List S} {rs : List Rv} {vs : List V} {Q : VK} {n : Str} {a dx : Addr} (R : Rst X.K c G H σ ρ) (s0 : Same G0 G) (hv : RpRs X.K G σ vs rs) (hl : ∀ ss o, fn ss = some o → ss.length = np)
  (w : wpM (makeM n mu fn rs ρ) (fun r ρ' => ∀ v G' H', Rst X.K c G' H' σ ρ' → Same G0 G' → RpR X.K c G' H' σ ρ' v r → Q v H') (EXk X.K c W σ G0)) (hx : H a = none) (hdx : H dx = none) (ne : dx ≠ a) :
  spD X.K np fn (.ref a :: vs) (upd (upd H dx (.own a)) a (.ins (He.ga X.K n) dx [])) (fun v H2 => v = .non ∧ Q (.ref a) H2) (WE W σ) := by
 unfold makeM at w
 have wp : wpM (prep mu rs ρ) (fun rs' ρ1 => wpM (if dist rs' = true then (match ssOfs ρ1 rs' with
  | some ss => (match fn (.own (.obj n [] []) :: ss) with
   | some (.ret (.val .non) (.own d :: ss')) => some (.ok (.own d) (back rs' ss' ρ1))
   | some (.ex e (_ :: ss')) => some (.ex e (back rs' ss' ρ1))
   | _ => none)
  | none => none) else none) (fun r ρ' => ∀ v G' H', Rst X.K c G' H' σ ρ' → Same G0 G' → RpR X.K c G' H' σ ρ' v r → Q v H') (EXk X.K c W σ G0)) (fun _ _ => False) := by
  cases q : prep mu rs ρ with
  | none => rw [q] at w; exact w
  | some o => cases o with
   | ok a ρ1 => rw [q] at w; exact w
   | ex e ρ1 => rw [q] at w; exact w.elim
 obtain ⟨rs', G1, ρ1, s1, R1, k1, w1⟩ := prep_wp R hv wp
 by_cases hd : dist rs' = true
 · rw [if_pos hd] at w1
   cases hs : ssOfs ρ1 rs' with
   | none => rw [hs] at w1; exact w1.elim
   | some ss =>
    rw [hs] at w1
    dsimp only at w1
    obtain ⟨R2, k2⟩ := R1.cut.made (n := n) hx hdx ne
    have R3 := R2.snoc (by show (c.s0.take σ.length).length ≤ σ.length; rw [List.length_take]; omega) k2
    have hlen : ρ1.length = σ.length := R1.len
    have get0 : (ρ1 ++ [S.own (.obj n [] [])])[ρ1.length]? = some (.own (.obj n [] [])) := by rw [List.getElem?_append_right (Nat.le_refl _), Nat.sub_self]; rfl
    have gets : (σ ++ [some (V.ref a)])[ρ1.length]? = some (some (V.ref a)) := by rw [hlen, List.getElem?_append_right (Nat.le_refl _), Nat.sub_self]; rfl
    have lt := ssOfs_lt hs
    have hd3 : dist (.ali ρ1.length :: rs') = true := by
     show (!rs'.any (isAli ρ1.length) && dist rs') = true
     rw [hd, Bool.and_true]
     have : rs'.any (isAli ρ1.length) = false := by
      rw [List.any_eq_false]
      intro r hr z
      cases r with
      | ali j =>
       have : ρ1.length = j := by simpa [isAli] using z
       have h2 := lt j hr
       omega
      | val d => cases z
      | own d => cases z
     rw [this]; rfl
    have hs3 : ssOfs (ρ1 ++ [S.own (.obj n [] [])]) (.ali ρ1.length :: rs') = some (.own (.obj n [] []) :: ss) := by
     unfold ssOfs
     rw [ssOfs_snoc hs]
     have : ssOf (ρ1 ++ [S.own (.obj n [] [])]) (.ali ρ1.length) = some (.own (.obj n [] [])) := by
      unfold ssOf
      dsimp only
      rw [get0]
     rw [this]
    have hv3 : RpRs X.K G1 (σ ++ [some (V.ref a)]) (V.ref a :: vs) (.ali ρ1.length :: rs') := ⟨gets, k1.snoc⟩
    cases hf : fn (.own (.obj n [] []) :: ss) with
    | none => rw [hf] at w1; exact w1.elim
    | some o =>
     rw [hf] at w1
     refine ⟨⟨calleeF (σ ++ [some (V.ref a)]) (ρ1 ++ [S.own (.obj n [] [])]) G1 _ (.ali ρ1.length :: rs'), (V.ref a :: vs).map some⟩, G1, _, o, by rw [← hl _ o hf]; exact (dargs_get hv3 hs3).1.symm, rfl, R3.callee hv3 hd3 hs3, hf, ?_⟩
     have fin : ∀ {s0' : S} {ss' : List S} {G' H' : Hp}, Same G1 G' → Rst X.K ⟨calleeF (σ ++ [some (V.ref a)]) (ρ1 ++ [S.own (.obj n [] [])]) G1 _ (.ali ρ1.length :: rs'), (V.ref a :: vs).map some⟩ G' H' ((V.ref a :: vs).map some) (s0' :: ss') →
       ∃ t, Rst X.K (c.cut σ.length) G' H' (σ ++ [some (V.ref a)]) (back rs' ss' ρ1 ++ [t]) ∧ ∀ d, s0' = .own d → t = .own d := fun {s0' ss' G' H'} sm R' => by
      have R4 := R3.called hv3 hs3 sm R'
      have e : back (.ali ρ1.length :: rs') (s0' :: ss') (ρ1 ++ [S.own (.obj n [] [])]) = back rs' ss' ρ1 ++ [ownOr s0'] := by
       conv => lhs; unfold back
       have e1 : back1 ρ1.length s0' (ρ1 ++ [S.own (.obj n [] [])]) = ρ1 ++ [ownOr s0'] := by
        unfold back1
        rw [get0]
        show (if true = true then _ else _) = _
        rw [if_pos rfl, List.set_append_right _ _ (Nat.le_refl _), Nat.sub_self]
        rfl
       rw [e1]
       exact back_snoc lt
      rw [e] at R4
      exact ⟨_, R4, fun d hd => by rw [hd]; rfl⟩
     cases o with
     | ret q ss' =>
      intro v G' H' R' s' kq
      cases q with
      | val d =>
       cases d <;> first
        | exact w1.elim
        | (cases ss' with
         | nil => exact w1.elim
         | cons s0' ss' =>
          cases s0' with
          | no => exact w1.elim
          | val _ => exact w1.elim
          | own d =>
           obtain ⟨t, R5, ht⟩ := fin s' R'
           rw [ht d rfl] at R5
           exact ⟨kq, w1 (.ref a) G' H' R5.unsnoc.uncut ((s0.trans s1).trans s') R5.last⟩)
      | own d => exact w1.elim
      | ali i => exact w1.elim
     | ex e ss' =>
      intro cls d G' H' R' s' xa
      cases ss' with
      | nil => exact w1.elim
      | cons s0' ss' =>
       obtain ⟨t, R5, _⟩ := fin s' R'
       exact w1 cls d G' H' R5.unsnoc.uncut ((s0.trans s1).trans s') xa
 · rw [if_neg hd] at w1; exact w1.elim
theorem de_make (mu : List Bool) (go : Go X W) (F : DM X.prog X.w X.K X.mg X.base x k np fn) (hr : Room (k + 1) X.A) (hg : Gl X x) (ha : DA X W (e :: es) ga)
  (hdb : (x == ("__debug__" : Str)) = false := by decide) (he : starEach (e :: es) X.env = (false, eval e X.env) :: starEach es X.env := by rfl) (hpl : (backTo pos (starEach es X.env)).any (·.1) = false := by rfl) :
  DE X W (.Call (.Name x p) (e :: es) [] pos) (eMake x mu fn ga) := by
 obtain ⟨f, fd, ps, hm, hk, hb, FO⟩ := F.ex
 refine ⟨(pe_makeS (E := WE W) hk FO hr hg hm hb (wish_of go.tk) ha.pa hdb he hpl).weak fun σ H Q ⟨c, G, ρ, R, w⟩ => ?_⟩
 refine tg_step R (Same.refl G) w fun rs ρ1 vs G1 H1 R1 s1 _ k1 w1 => ?_
 exact fun x dx hx hdx ne => make_sp R1 s1 k1 F.len w1 hx hdx ne
structure DMeth (P : Program) (w : World) (K : PySem.W.Frag) (mg : Str → Option Value) (base : Heap) (n m : Str) (k np : Nat) (fn : Fn) : Prop where
 len : ∀ ss o, fn ss = some o → ss.length = np
 cl : Cls K (He.ga K n)
 ex : ∃ (f : Addr) (fd : FuncData) (ps : List Str), Meth K (He.ga K n) m f ∧ Binds K fd ps [] ∧ FnOk P w K mg base (L2N.CX P w) k f fd ps (spD K np fn)
def ckO (n m : Str) (r : Rv) : M Unit := do
 let d ← peek r
 match d with
 | .obj n' ns _ => if n' = n ∧ m ∉ ns then pure () else M.fail
 | _ => M.fail
def eMeth (n m : Str) (mu : List Bool) (fn : Fn) (fo : M Rv) (ga : M (List Rv)) : M Rv := do
 let r ← fo
 ckO n m (settle r)
 let rs ← ga
 callM mu fn (settle r :: rs)
end
end Dl
namespace Dl
open PySem L2
def zipD (as bs : List D) : List D := List.zipWith (fun a b => D.tup [a, b]) as bs
def dZip : List D → Option (List D)
 | [.lst as, .lst bs] => if (zipD as bs).length ≤ 16777216 then some (zipD as bs) else none
 | [.tup as, .tup bs] => if (zipD as bs).length ≤ 16777216 then some (zipD as bs) else none
 | _ => none
def iZip (ga : M (List Rv)) : M (List D) := do
 let rs ← ga
 let ds ← toVs rs
 ofO (dZip ds)
section
variable {X : Cx} {W : WX} {np : Nat} {a b e tg : Expr} {es : List Expr} {fa fb : M Rv} {ga : M (List Rv)} {p p2 pos tpos : Pos}
end
section
variable {X : Cx} {W : WX} {a b e o : Expr} {fa fb : M Rv} {p p2 pos : Pos} {k np : Nat} {fn : Fn}
def ckC (n : Str) (r : Rv) : M Unit := do
 let d ← peek r
 match d with
 | .obj n' _ _ => if n' = n then pure () else M.fail
 | _ => M.fail
def eOwn2 (n : Str) (mu : List Bool) (fn : Fn) (fo fb : M Rv) : M Rv := do
 let r ← fo
 let q ← fb
 ckC n (settle r)
 ckC n (settle q)
 callM mu fn [settle r, settle q]
theorem ckC_wp {K : PySem.W.Frag} {c : Cn} {G H : Hp} {σ : L2.St} {ρ : List S} {v : V} {r : Rv} {n : Str} {OK : Unit → List S → Prop} {EX : Xn → List S → Prop} (R : Rst K c G H σ ρ) (k : RpR K c G H σ ρ v r) (w : wpM (ckC n r ρ) OK EX) :
  (∃ a dx fs, v = V.ref a ∧ H a = some (.ins (He.ga K n) dx fs)) ∧ OK () ρ := by
 obtain ⟨d, kd, w2⟩ := peek_wp R k (wpM_bind w)
 cases d <;> first
  | exact w2.elim
  | (rename_i n' ns ds
     dsimp only at w2
     by_cases hn : n' = n
     · rw [if_pos hn] at w2
       obtain ⟨a, dx, xs, h1, h2, _, _⟩ := kd.obj R.gh
       rw [hn] at h2
       exact ⟨⟨a, dx, _, h1, h2⟩, w2⟩
     · rw [if_neg hn] at w2; exact w2.elim)
end
end Dl
namespace Dl
open PySem L2
def tCmp (f : M Rv) : M Bool := do
 let r ← f
 match r with
 | .val (.bl b) => pure b
 | _ => M.fail
section
variable {X : Cx} {W : WX} {a b : Expr} {fa fb : M Rv} {pos : Pos} {r : R2} {g : D → D → Option Rv}
theorem tD_cmp {K : PySem.W.Frag} {f : M Rv} {σ : L2.St} {H : Hp} {Q : Bool → Hp → Prop} (h : tDT K W (tCmp f) σ H Q) : tD K W f σ H (fun x H' => ∃ k, x = V.bl k ∧ Q k H') := by
 obtain ⟨c, G, ρ, R, w⟩ := h
 refine tg_step R (Same.refl G) w fun x ρ1 v G1 H1 R1 s1 _ k1 w1 => ?_
 cases x with
 | val d => cases d with
  | bl b => exact ⟨b, k1, w1 b G1 H1 R1 s1 rfl⟩
  | _ => exact w1.elim
 | _ => exact w1.elim
theorem dt_cmp {op : CmpOp} (ho : OpR X (compareOp op) r) (hg : BinR X.K r g) (ha : DE X W a fa) (hb : DE X W b fb) (hm : behindInMarks op b = false := by rfl) : DT X W (.Compare a [op] [b] pos) (tCmp (mBin g fa fb)) :=
 ⟨(pt_cmpR ho ha.pe hb.pe hm).weak fun _ _ _ h => tD_bin hg (tD_cmp h)⟩
theorem dt_lt (ha : DE X W a fa) (hb : DE X W b fb) : DT X W (.Compare a [.Lt] [b] pos) (tCmp (eLt fa fb)) := let ⟨_, h1, h2⟩ := lt_op; dt_cmp h1 h2 ha hb (nomark _)
theorem dt_gt (ha : DE X W a fa) (hb : DE X W b fb) : DT X W (.Compare a [.Gt] [b] pos) (tCmp (eGt fa fb)) := let ⟨_, h1, h2⟩ := gt_op; dt_cmp h1 h2 ha hb (nomark _)
theorem dt_ge (ha : DE X W a fa) (hb : DE X W b fb) : DT X W (.Compare a [.GtE] [b] pos) (tCmp (eGe fa fb)) := let ⟨_, h1, h2⟩ := ge_op; dt_cmp h1 h2 ha hb (nomark _)
theorem dt_eq (hu : Rm X) (ha : DE X W a fa) (hb : DE X W b fb) : DT X W (.Compare a [.Eq] [b] pos) (tCmp (eEq fa fb)) := dt_cmp (op_eqD (Nat.lt_of_succ_lt hu)) eq_ok ha hb (nomark _)
theorem dt_ne (hu : Rm X) (ha : DE X W a fa) (hb : DE X W b fb) : DT X W (.Compare a [.NotEq] [b] pos) (tCmp (eNe fa fb)) := dt_cmp (op_neD (Nat.lt_of_succ_lt hu)) ne_ok ha hb (nomark _)
theorem dt_in (hu : Rm X) (ha : DE X W a fa) (hb : DE X W b fb) (hm : behindInMarks .In b = false := by rfl) : DT X W (.Compare a [.In] [b] pos) (tCmp (eIn fa fb)) := dt_cmp (op_in_seq.or (op_inD hu)) (BinR.or in_ok inD_ok) ha hb hm
theorem dt_is (ha : DE X W a fa) (hb : DE X W b fb) : DT X W (.Compare a [.Is] [b] pos) (tCmp (eIs fa fb)) := dt_cmp (op_isN.or op_isBl) is_ok ha hb (nomark _)
theorem de_tyN {x : Str} {n : String} (hm : X.mg x = none) (hv : bootBuiltins x = some (.type n)) (hg : Gl X x := by exact rfl) (hn : x ≠ "__name__" := by decide) (hd : (x == ("__debug__" : Str)) = false := by decide) : DE X W (.Name x pos) (eC (.ty n)) :=
 de_cv (v := .ty n) (pe_bltn hg hm hv rfl hn hd) fun _ => rfl
theorem de_len {x : Expr} {ga : M (List Rv)} {p : Pos} (hm : X.mg "len" = none) (ha : DA X W [x] ga) (hg : Gl X "len" := by exact rfl) (he : starEach [x] X.env = (false, eval x X.env) :: starEach [] X.env := by rfl) (hpl : (backTo pos (starEach [] X.env)).any (·.1) = false := by rfl) :
  DE X W (.Call (.Name "len" p) [x] [] pos) (eB gLen ga) := de_B call_len len_ok hg hm boot_len ha (by decide) (by decide) he hpl
theorem de_int1 {x : Expr} {ga : M (List Rv)} {p : Pos} (hm : X.mg "int" = none) (ha : DA X W [x] ga) (hg : Gl X "int" := by exact rfl) (he : starEach [x] X.env = (false, eval x X.env) :: starEach [] X.env := by rfl) (hpl : (backTo pos (starEach [] X.env)).any (·.1) = false := by rfl) :
  DE X W (.Call (.Name "int" p) [x] [] pos) (eB gInt ga) := de_Ty call_int1 int_ok hg hm PyProof.Rows.boot_int ha (by decide) (by decide) he hpl
theorem de_tuple {x : Expr} {ga : M (List Rv)} {p : Pos} (hm : X.mg "tuple" = none) (ha : DA X W [x] ga) (hg : Gl X "tuple" := by exact rfl) (he : starEach [x] X.env = (false, eval x X.env) :: starEach [] X.env := by rfl) (hpl : (backTo pos (starEach [] X.env)).any (·.1) = false := by rfl) :
  DE X W (.Call (.Name "tuple" p) [x] [] pos) (eB gTuple ga) := de_Ty call_tuple_of tuple_ok hg hm PyProof.Rows.boot_tuple ha (by decide) (by decide) he hpl
theorem de_min2 {x y : Expr} {ga : M (List Rv)} {p : Pos} (go : Go X W) (hm : X.mg "min" = none) (ha : DA X W [x, y] ga) (hg : Gl X "min" := by exact rfl) (he : starEach [x, y] X.env = (false, eval x X.env) :: starEach [y] X.env := by rfl) (hpl : (backTo pos (starEach [y] X.env)).any (·.1) = false := by rfl) :
  DE X W (.Call (.Name "min" p) [x, y] [] pos) (eB gMin2 ga) := de_B (call_min2 go.calm) min2_ok hg hm PyProof.Rows.boot_min ha (by decide) (by decide) he hpl
theorem de_max1 {x : Expr} {ga : M (List Rv)} {p : Pos} (go : Go X W) (hm : X.mg "max" = none) (ha : DA X W [x] ga) (hg : Gl X "max" := by exact rfl) (he : starEach [x] X.env = (false, eval x X.env) :: starEach [] X.env := by rfl) (hpl : (backTo pos (starEach [] X.env)).any (·.1) = false := by rfl) :
  DE X W (.Call (.Name "max" p) [x] [] pos) (eB gMaxL ga) := de_B (cr_max go.calm) maxL_ok hg hm PyProof.Rows.boot_max ha (by decide) (by decide) he hpl
theorem de_sorted {x : Expr} {ga : M (List Rv)} {p : Pos} (hm : X.mg "sorted" = none) (ha : DA X W [x] ga) (hg : Gl X "sorted" := by exact rfl) (he : starEach [x] X.env = (false, eval x X.env) :: starEach [] X.env := by rfl) (hpl : (backTo pos (starEach [] X.env)).any (·.1) = false := by rfl) :
  DE X W (.Call (.Name "sorted" p) [x] [] pos) (eB gSorted ga) := de_B cr_sortedI sorted_ok hg hm PyProof.Rows.boot_sorted ha (by decide) (by decide) he hpl
theorem de_isi {x y : Expr} {ga : M (List Rv)} {p : Pos} (hm : X.mg "isinstance" = none) (ha : DA X W [x, y] ga) (hg : Gl X "isinstance" := by exact rfl) (he : starEach [x, y] X.env = (false, eval x X.env) :: starEach [y] X.env := by rfl) (hpl : (backTo pos (starEach [y] X.env)).any (·.1) = false := by rfl) :
  DE X W (.Call (.Name "isinstance" p) [x, y] [] pos) (eB gIsi ga) := de_B call_isi isi_ok hg hm PyProof.Rows.boot_isinstance ha (by decide) (by decide) he hpl
end
section
variable {P : Program} {w : World} {K : PySem.W.Frag} {mg : Str → Option Value} {base : Heap} {x m : Str} {j k np : Nat} {fn fn' : Fn}
theorem DF.up (F : DF P w K mg base x j np fn) (h : j ≤ k) : DF P w K mg base x k np fn := let ⟨f, fd, ps, h1, h2, h3, h4⟩ := F.ex; ⟨F.len, f, fd, ps, h1, h2, h3, h4.mono h⟩
theorem DM.up (F : DM P w K mg base x j np fn) (h : j ≤ k) : DM P w K mg base x k np fn := let ⟨f, fd, ps, h1, h2, h3, h4⟩ := F.ex; ⟨F.len, f, fd, ps, h1, h2, h3, h4.mono h⟩
theorem DMeth.up (F : DMeth P w K mg base x m j np fn) (h : j ≤ k) : DMeth P w K mg base x m k np fn := let ⟨f, fd, ps, h1, h2, h3⟩ := F.ex; ⟨F.len, F.cl, f, fd, ps, h1, h2, h3.mono h⟩
def Fn.le (fn' fn : Fn) : Prop := ∀ ss o, fn' ss = some o → fn ss = some o
theorem spD_imp {vs : List V} {H : Hp} {Q : VK} {E : XK} (h : Fn.le fn' fn) (q : spD K np fn' vs H Q E) : spD K np fn vs H Q E := let ⟨c, G, ss, o, h1, h2, h3, h4, h5⟩ := q; ⟨c, G, ss, o, h1, h2, h3, h _ _ h4, h5⟩
theorem DF.imp (F : DF P w K mg base x k np fn) (h : Fn.le fn' fn) : DF P w K mg base x k np fn' := let ⟨f, fd, ps, h1, h2, h3, h4⟩ := F.ex; ⟨fun ss o e => F.len ss o (h _ _ e), f, fd, ps, h1, h2, h3, h4.imp fun _ _ _ _ q => spD_imp h q⟩
theorem DM.imp (F : DM P w K mg base x k np fn) (h : Fn.le fn' fn) : DM P w K mg base x k np fn' := let ⟨f, fd, ps, h1, h2, h3, h4⟩ := F.ex; ⟨fun ss o e => F.len ss o (h _ _ e), f, fd, ps, h1, h2, h3, h4.imp fun _ _ _ _ q => spD_imp h q⟩
theorem DMeth.imp (F : DMeth P w K mg base x m k np fn) (h : Fn.le fn' fn) : DMeth P w K mg base x m k np fn' := let ⟨f, fd, ps, h1, h2, h3⟩ := F.ex; ⟨fun ss o e => F.len ss o (h _ _ e), F.cl, f, fd, ps, h1, h2, h3.imp fun _ _ _ _ q => spD_imp h q⟩
theorem mkFn_len {np n : Nat} {f : MS} : ∀ ss o, mkFn np n f ss = some o → ss.length = np := fun ss o e => by
 unfold mkFn at e
 by_cases h : ss.length = np
 · exact h
 · rw [if_neg h] at e; cases e
def Body (P : Program) (w : World) (K : PySem.W.Frag) (mg : Str → Option Value) (base : Heap) (N : List Str) (qual : Str) (scope : Scope) (f : Addr) (body : List Stmt) (np k : Nat) (fb : MS) : Prop :=
 ∀ (cdv : Value) (A : Around) (outer : List Env) (s : Shared) (H : Hp) (E : XK), Room k (A.deeper (PyProof.Rows.envOfC qual scope s.heap.objs.size f cdv)) → DL (cxOf (L2N.CX P w) P w K mg base N qual scope f cdv A outer s H E) (WB E) np body fb
theorem df_of {ps N : List Str} {f : Addr} {fd : FuncData} {qual : Str} {params : Arguments} {body : List Stmt} {scope : Scope} {fb : MS} (F : FunD K x qual params body scope [] [] f fd) (S : FnScope N ps scope) (hm : mg x = some (.ref f)) (hb : Binds K fd ps [])
  (h : Body P w K mg base N qual scope f body ps.length k fb) : DF P w K mg base x (k + 1) ps.length (mkFn ps.length N.length fb) :=
 ⟨mkFn_len, f, fd, ps, hm, F.kp, hb, fn_data F S h⟩
theorem dm_of {ps N : List Str} {f : Addr} {fd : FuncData} {qual y : Str} {params : Arguments} {body : List Stmt} {scope : Scope} {fb : MS} (F : FunD K y qual params body scope [] [] f fd) (S : FnScope N ps scope) (hm : mg x = some (.ref (He.ga K x))) (hk : Mk K (He.ga K x) f) (hb : Binds K fd ps [])
  (h : Body P w K mg base N qual scope f body ps.length k fb) : DM P w K mg base x (k + 1) ps.length (mkFn ps.length N.length fb) :=
 ⟨mkFn_len, f, fd, ps, hm, hk, hb, fn_data F S h⟩
end
end Dl
namespace Dl
open PySem L2
abbrev Ar : Type := List (Addr × List D)
abbrev keys (A : Ar) : List Addr := A.map (·.1)
structure RepA (K : PySem.W.Frag) (G FA : Hp) (A : Ar) : Prop where
 nd : (keys A).Nodup
 at_ : ∀ a ds, (a, ds) ∈ A → ∃ xs, FA a = some (.lst xs) ∧ RpL K G ds xs
 dom : ∀ a o, FA a = some o → a ∈ keys A
theorem RepA.mono {K : PySem.W.Frag} {G G' FA : Hp} {A : Ar} (h : RepA K G FA A) (s : Same G G') : RepA K G' FA A :=
 ⟨h.nd, fun a ds m => let ⟨xs, h1, h2⟩ := h.at_ a ds m; ⟨xs, h1, h2.mono s⟩, h.dom⟩
def plus (F FA : Hp) : Hp := fun a => match FA a with
 | some o => some o
 | none => F a
abbrev Cn.pl (c : Cn) (FA : Hp) : Cn := { c with F := plus c.F FA }
structure RstA (K : PySem.W.Frag) (c : Cn) (FA G H : Hp) (σ : L2.St) (ρ : List S) (A : Ar) : Prop where
 rst : Rst K (c.pl FA) G H σ ρ
 rep : RepA K G FA A
 dis : ∀ a o, c.F a = some o → FA a = none
inductive OA where
 | nx (ρ : List S) (A : Ar) | rt (r : Rv) (ρ : List S) (A : Ar) | bk (ρ : List S) (A : Ar) | ct (ρ : List S) (A : Ar) | ex (e : Xn) (ρ : List S) (A : Ar)
abbrev MA : Type := List S → Ar → (OA → Prop) → Prop
def PoA (K : PySem.W.Frag) (c : Cn) (W : WX) (G : Hp) (Dn : Ends) : OA → Prop
 | .nx ρ' A' => ∀ σ' FA' G' H', RstA K c FA' G' H' σ' ρ' A' → Same G G' → Dn.nx σ' H'
 | .bk ρ' A' => ∀ σ' FA' G' H', RstA K c FA' G' H' σ' ρ' A' → Same G G' → Dn.bk σ' H'
 | .ct ρ' A' => ∀ σ' FA' G' H', RstA K c FA' G' H' σ' ρ' A' → Same G G' → Dn.ct σ' H'
 | .rt r ρ' A' => ∀ v σ' FA' G' H', RstA K c FA' G' H' σ' ρ' A' → Same G G' → RpR K (c.pl FA') G' H' σ' ρ' v r → Dn.rt v H'
 | .ex e ρ' A' => ∀ cls d σ' FA' G' H', RstA K c FA' G' H' σ' ρ' A' → Same G G' → XAt K G' H' e cls d → W cls d σ' H'
theorem PoA.mono {K : PySem.W.Frag} {c : Cn} {W : WX} {G G1 : Hp} {Dn : Ends} {o : OA} (s : Same G G1) (h : PoA K c W G Dn o) : PoA K c W G1 Dn o := by
 cases o with
 | nx ρ A => exact fun σ' FA' G' H' R s' => h σ' FA' G' H' R (s.trans s')
 | bk ρ A => exact fun σ' FA' G' H' R s' => h σ' FA' G' H' R (s.trans s')
 | ct ρ A => exact fun σ' FA' G' H' R s' => h σ' FA' G' H' R (s.trans s')
 | rt r ρ A => exact fun v σ' FA' G' H' R s' k => h v σ' FA' G' H' R (s.trans s') k
 | ex e ρ A => exact fun cls d σ' FA' G' H' R s' x => h cls d σ' FA' G' H' R (s.trans s') x
def tA (K : PySem.W.Frag) (W : WX) (np : Nat) (w : MA) : TS := fun Dn σ H => ∃ c FA G ρ A Φ, c.s0.length = np ∧ RstA K c FA G H σ ρ A ∧ w ρ A Φ ∧ ∀ o, Φ o → PoA K c W G Dn o
structure DSA (X : Cx) (W : WX) (np : Nat) (st : Stmt) (w : MA) : Prop where
 ps : PS X st (tA X.K W np w)
structure DLA (X : Cx) (W : WX) (np : Nat) (st : List Stmt) (w : MA) : Prop where
 pss : PSs X st (tA X.K W np w)
section
variable {X : Cx} {W : WX} {np : Nat} {a b e tg iter : Expr} {pos p : Pos} {st : Stmt} {rest sts sts' : List Stmt} {f : MS} {w w' w1 w2 : MA} {ga : M Bool} {it : M (List D)} {g : D → List S → Option (List S)}
end
end Dl
namespace Dl
open PySem L2
abbrev MEA (α : Type) : Type := List S → Ar → (α → List S → Ar → Prop) → Prop
def tgA {α β : Type} (K : PySem.W.Frag) (rep : Cn → Hp → Hp → L2.St → List S → β → α → Prop) (w : MEA α) : L2.St → Hp → (β → Hp → Prop) → Prop := fun σ H Q =>
 ∃ c FA G ρ A Φ, RstA K c FA G H σ ρ A ∧ w ρ A Φ ∧ ∀ a ρ' A', Φ a ρ' A' → ∀ b FA' G' H', RstA K c FA' G' H' σ ρ' A' → Same G G' → rep (c.pl FA') G' H' σ ρ' b a → Q b H'
structure DEA (X : Cx) (e : Expr) (w : MEA Rv) : Prop where
 pe : PE X e (tgA X.K (repE X.K) w)
def Ar.put (A : Ar) (a : Addr) (ds : List D) : Ar := A.map fun p => if p.1 = a then (a, ds) else p
theorem Ar.put_keys (a : Addr) (ds : List D) : ∀ A : Ar, keys (Ar.put A a ds) = keys A
 | [] => rfl
 | p :: A => by
  show (if p.1 = a then (a, ds) else p).1 :: keys (Ar.put A a ds) = p.1 :: keys A
  rw [Ar.put_keys a ds A]
  split
  · rename_i h; rw [h]
  · rfl
theorem Ar.mem_put {A : Ar} {a b : Addr} {ds es : List D} (h : (b, es) ∈ Ar.put A a ds) : (b = a ∧ es = ds) ∨ (b ≠ a ∧ (b, es) ∈ A) := by
 obtain ⟨p, hp, e⟩ := List.mem_map.mp h
 split at e
 · cases e; exact .inl ⟨rfl, rfl⟩
 · rename_i hn; subst e; exact .inr ⟨hn, hp⟩
section
variable {K : PySem.W.Frag} {c : Cn} {FA G H : Hp} {σ : L2.St} {ρ : List S} {A : Ar} {a : Addr} {ds ds' : List D} {xs' : List V}
theorem RstA.node (R : RstA K c FA G H σ ρ A) (h : (a, ds) ∈ A) : ∃ xs, FA a = some (.lst xs) ∧ H a = some (.lst xs) ∧ RpL K G ds xs := by
 obtain ⟨xs, h1, h2⟩ := R.rep.at_ a ds h
 exact ⟨xs, h1, R.rst.fh a _ (by show plus c.F FA a = _; unfold plus; rw [h1]), h2⟩
theorem RstA.store (R : RstA K c FA G H σ ρ A) (h : (a, ds) ∈ A) (r : RpL K G ds' xs') : RstA K c (upd FA a (.lst xs')) G (upd H a (.lst xs')) σ ρ (Ar.put A a ds') := by
 obtain ⟨xs, h1, h2, h3⟩ := R.node h
 have hF : plus c.F FA a = some (.lst xs) := by unfold plus; rw [h1]
 have hG : G a = none := R.rst.fg a _ hF
 have hP : ∀ b, b ≠ a → plus c.F (upd FA a (.lst xs')) b = plus c.F FA b := fun b hb => by unfold plus; rw [upd_ne hb]
 have hPa : plus c.F (upd FA a (.lst xs')) a = some (.lst xs') := by unfold plus; rw [upd_same]
 refine ⟨⟨fun b o e => ?_, fun b o e => ?_, fun b o e => ?_, R.rst.len, R.rst.val, fun i d e => ?_, R.rst.ne, R.rst.par⟩, ⟨by rw [Ar.put_keys]; exact R.rep.nd, fun b es hm => ?_, fun b o e => ?_⟩, fun b o e => ?_⟩
 · have e : plus c.F (upd FA a (.lst xs')) b = some o := e
   by_cases hb : b = a
   · subst hb; rw [hPa] at e; cases e; exact upd_same
   · rw [hP b hb] at e; rw [upd_ne hb]; exact R.rst.fh b o e
 · by_cases hb : b = a
   · subst hb; rw [hG] at e; cases e
   · rw [upd_ne hb]; exact R.rst.gh b o e
 · have e : plus c.F (upd FA a (.lst xs')) b = some o := e
   by_cases hb : b = a
   · subst hb; exact hG
   · rw [hP b hb] at e; exact R.rst.fg b o e
 · obtain ⟨b, e1, e2, e3, e4⟩ := R.rst.own i d e
   have e3' : plus c.F FA b = none := e3
   have hb : b ≠ a := fun z => by rw [z, hF] at e3'; cases e3'
   refine ⟨b, e1, e2, (hP b hb).trans e3', ?_⟩
   cases d with
   | lst es => obtain ⟨ys, q1, q2⟩ := e4; exact ⟨ys, by rw [upd_ne hb]; exact q1, q2⟩
   | obj n ns es =>
    obtain ⟨dx, ys, q1, q2, q3, q4, q5, q6, q7⟩ := e4
    have q4' : plus c.F FA dx = none := q4
    have hx : dx ≠ a := fun z => by rw [z, hF] at q4'; cases q4'
    exact ⟨dx, ys, by rw [upd_ne hb]; exact q1, by rw [upd_ne hx]; exact q2, q3, (hP dx hx).trans q4', q5, q6, q7⟩
   | dic ks vs => obtain ⟨kvs, q1, q2, q3⟩ := e4; exact ⟨kvs, by rw [upd_ne hb]; exact q1, q2, q3⟩
   | ndi ks vs => obtain ⟨kvs, q1, q2⟩ := e4; exact ⟨kvs, by rw [upd_ne hb]; exact q1, q2⟩
   | _ => exact e4.elim
 · rcases Ar.mem_put hm with ⟨rfl, rfl⟩ | ⟨hb, hm⟩
   · exact ⟨xs', upd_same, r⟩
   · obtain ⟨ys, q1, q2⟩ := R.rep.at_ b es hm
     exact ⟨ys, by rw [upd_ne hb]; exact q1, q2⟩
 · rw [Ar.put_keys]
   by_cases hb : b = a
   · subst hb; exact R.rep.dom _ _ h1
   · rw [upd_ne hb] at e; exact R.rep.dom b o e
 · have hb : b ≠ a := fun z => by rw [z] at e; have := R.dis a o e; rw [h1] at this; cases this
   rw [upd_ne hb]; exact R.dis b o e
end
section
variable {X : Cx} {W : WX} {np : Nat} {a b o e : Expr} {es : List Expr} {fa fb fe : M Rv} {wa wo we : MEA Rv} {pos apos cpos p : Pos}
end
end Dl
namespace Dl
open PySem L2
section
variable {K : PySem.W.Frag} {c : Cn} {G G' H H' : Hp} {σ σ' : L2.St} {ρ ρ' ss ss' : List S} {vs : List V} {rs : List Rv}
end
abbrev FnA : Type := List S → (D → List S → Ar → Prop) → Prop
def spA (K : PySem.W.Frag) (np : Nat) (fn : FnA) : Sp := fun vs H Q E => ∃ c G ss Φ, vs.length = np ∧ c.s0 = vs.map some ∧ Rst K c G H (vs.map some) ss ∧ fn ss Φ ∧
 ∀ d ss' A', Φ d ss' A' → ∀ v FA' G' H', RstA K c FA' G' H' (vs.map some) ss' A' → Same G G' → Rp K G' d v → Q v H'
section
variable {P : Program} {w : World} {K : PySem.W.Frag} {mg : Str → Option Value} {base : Heap} {x qual : Str} {params : Arguments} {body : List Stmt} {scope : Scope} {dvs : List V} {kws : List (Str × V)} {f : Addr} {fd : FuncData}
end
structure DFA (P : Program) (w : World) (K : PySem.W.Frag) (mg : Str → Option Value) (base : Heap) (x : Str) (k np : Nat) (fn : FnA) : Prop where
 len : ∀ ss Φ, fn ss Φ → ss.length = np
 ex : ∃ (f : Addr) (fd : FuncData) (ps : List Str), mg x = some (.ref f) ∧ PySem.W.keepIn K (.ref f) = true ∧ Binds K fd ps [] ∧ FnOk P w K mg base (L2N.CX P w) k f fd ps (spA K np fn)
theorem DFA.up {P : Program} {w : World} {K : PySem.W.Frag} {mg : Str → Option Value} {base : Heap} {x : Str} {j k np : Nat} {fn : FnA} (F : DFA P w K mg base x j np fn) (h : j ≤ k) : DFA P w K mg base x k np fn :=
 let ⟨f, fd, ps, h1, h2, h3, h4⟩ := F.ex; ⟨F.len, f, fd, ps, h1, h2, h3, h4.mono h⟩
section
variable {X : Cx} {W : WX} {x : Str} {k np : Nat} {fn : FnA} {e : Expr} {es : List Expr} {la : M (List Rv)} {p pos : Pos}
end
end Dl
namespace Dl
open PySem L2
structure DTA (X : Cx) (e : Expr) (w : MEA Bool) : Prop where
 pt : PT X e (tgA X.K repT w)
section
variable {X : Cx} {W : WX} {np : Nat} {a b e : Expr} {pos : Pos} {sts sts' : List Stmt} {fe : M Rv} {wo : MEA Rv} {wc : MEA Bool} {w1 w2 : MA}
theorem RstA.lst {K : PySem.W.Frag} {c : Cn} {FA G H : Hp} {σ : L2.St} {ρ : List S} {A : Ar} {p : Addr} {ds : List D} (R : RstA K c FA G H σ ρ A) (hm : (p, ds) ∈ A) : Same G (plus G FA) ∧ Same (plus G FA) H ∧ Rp K (plus G FA) (.lst ds) (.ref p) := by
 have fa : ∀ a o, FA a = some o → plus c.F FA a = some o := fun a o e => by unfold plus; rw [e]
 have s : Same G (plus G FA) := fun a o e => by
  unfold plus
  cases q : FA a with
  | none => exact e
  | some o' => rw [R.rst.fg a _ (fa a o' q)] at e; cases e
 refine ⟨s, fun a o e => ?_, ?_⟩
 · unfold plus at e
   cases q : FA a with
   | none => rw [q] at e; exact R.rst.gh a o e
   | some o' => rw [q] at e; cases e; exact R.rst.fh a _ (fa a _ q)
 · obtain ⟨xs, h1, _, h3⟩ := R.node hm
   exact ⟨p, xs, rfl, by unfold plus; rw [h1], h3.mono s⟩
end
end Dl
namespace Dl
open PySem L2
theorem RstA.bare {K : PySem.W.Frag} {c : Cn} {FA G H : Hp} {σ : L2.St} {ρ : List S} (R : RstA K c FA G H σ ρ []) : Rst K c G H σ ρ ∧ c.pl FA = c := by
 have e : plus c.F FA = c.F := funext fun a => by
  unfold plus
  cases q : FA a with
  | none => rfl
  | some o => exact nomatch R.rep.dom a o q
 have e2 : c.pl FA = c := by show ({ c with F := plus c.F FA } : Cn) = c; rw [e]
 exact ⟨by have := R.rst; rw [e2] at this; exact this, e2⟩
section
variable {P : Program} {w : World} {K : PySem.W.Frag} {mg : Str → Option Value} {base : Heap} {x qual : Str} {params : Arguments} {body : List Stmt} {scope : Scope} {dvs : List V} {kws : List (Str × V)} {f : Addr} {fd : FuncData}
end
end Dl
namespace Dl
open PySem L2
section
variable {K : PySem.W.Frag} {c : Cn} {G H : Hp} {σ : L2.St} {ρ : List S} {v : V} {ds : List D}
theorem Rst.hide (R : Rst K c G H σ ρ) (k : RpR K c G H σ ρ v (.own (.lst ds))) : ∃ a xs, v = .ref a ∧ H a = some (.lst xs) ∧ RpL K G ds xs ∧ c.F a = none ∧ Rst K { c with F := upd c.F a (.lst xs) } G H σ ρ := by
 obtain ⟨a, h1, h2, h3, ⟨xs, h4, h5⟩, h6⟩ := k
 refine ⟨a, xs, h1, h4, h5, h3, fun b o e => ?_, R.gh, fun b o e => ?_, R.len, R.val, fun i d e => ?_, R.ne, R.par⟩
 · have e : upd c.F a (.lst xs) b = some o := e
   by_cases hb : b = a
   · subst hb; rw [upd_same] at e; cases e; exact h4
   · rw [upd_ne hb] at e; exact R.fh b o e
 · have e : upd c.F a (.lst xs) b = some o := e
   by_cases hb : b = a
   · subst hb; exact h2
   · rw [upd_ne hb] at e; exact R.fg b o e
 · obtain ⟨b, g1, g2, g3, g4⟩ := R.own i d e
   have hb : b ≠ a := fun z => h6 i d e (by rw [g1, z])
   refine ⟨b, g1, g2, (upd_ne hb).trans g3, ?_⟩
   cases d with
   | lst es => exact g4
   | dic ks vs => exact g4
   | ndi ks vs => exact g4
   | obj n ns es =>
    obtain ⟨dx, ys, q1, q2, q3, q4, q5⟩ := g4
    have hx : dx ≠ a := fun z => by rw [z, h4] at q2; cases q2
    exact ⟨dx, ys, q1, q2, q3, (upd_ne hx).trans q4, q5⟩
   | _ => exact g4.elim
theorem hid_none {F : Hp} {a b : Addr} {o : HO} (hF : F a = none) (h : upd F a o b = none) : F b = none := by
 by_cases hb : b = a
 · subst hb; exact hF
 · rw [upd_ne hb] at h; exact h
theorem hid_some {F : Hp} {a b : Addr} {o o' : HO} (hF : F a = none) (h : F b = some o') : upd F a o b = some o' := by
 have hb : b ≠ a := fun z => by rw [z, hF] at h; cases h
 rw [upd_ne hb]; exact h
theorem Rst.unhide {a : Addr} {o : HO} (hF : c.F a = none) (R : Rst K { c with F := upd c.F a o } G H σ ρ) : Rst K c G H σ ρ :=
 ⟨fun b u e => R.fh b u (hid_some hF e), R.gh, fun b u e => R.fg b u (hid_some hF e), R.len, R.val, fun i d e => by
  obtain ⟨b, g1, g2, g3, g4⟩ := R.own i d e
  exact ⟨b, g1, g2, hid_none hF g3, ow_frame g4 fun x u q => hid_some hF q⟩, R.ne, R.par⟩
theorem ap_get {α : Type} {l : List α} {x y : α} {i : Nat} (h : (l ++ [x])[i]? = some y) : l[i]? = some y ∨ (i = l.length ∧ y = x) := by
 by_cases hi : i < l.length
 · rw [List.getElem?_append_left hi] at h; exact .inl h
 · rw [List.getElem?_append_right (Nat.le_of_not_lt hi)] at h
   cases q : i - l.length with
   | zero => rw [q] at h; cases h; exact .inr ⟨by omega, rfl⟩
   | succ n => rw [q] at h; cases h
theorem ap_old {α : Type} {l : List α} {x y : α} {i : Nat} (h : l[i]? = some y) : (l ++ [x])[i]? = some y := by
 rw [List.getElem?_append_left (List.getElem?_eq_some_iff.mp h).1]; exact h
theorem ap_new {α : Type} {l : List α} {x : α} : (l ++ [x])[l.length]? = some x := by
 rw [List.getElem?_append_right (Nat.le_refl _), Nat.sub_self]; rfl
theorem Rst.slot {a : Addr} {xs : List V} (hF : c.F a = none) (R : Rst K { c with F := upd c.F a (.lst xs) } G H σ ρ) (r : RpL K G ds xs) : Rst K ⟨c.F, []⟩ G H (σ ++ [some (.ref a)]) (ρ ++ [.own (.lst ds)]) := by
 have hU : upd c.F a (.lst xs) a = some (.lst xs) := upd_same
 have U := R.unhide hF
 have nota : ∀ (i : Nat) (d : D), ρ[i]? = some (.own d) → σ[i]? ≠ some (some (.ref a)) := fun i d e z => by
  obtain ⟨b, g1, g2, g3, g4⟩ := R.own i d e
  rw [z] at g1; cases g1
  rw [show upd c.F a (.lst xs) a = none from g3] at hU; cases hU
 refine ⟨U.fh, U.gh, U.fg, by rw [List.length_append, List.length_append, U.len]; rfl, fun i d e => ?_, fun i d e => ?_, fun i j d e b h1 h2 r1 r2 => ?_, fun i d e hl => absurd hl (Nat.not_lt_zero _)⟩
 · rcases ap_get e with e | ⟨_, e⟩
   · obtain ⟨v, q1, q2⟩ := U.val i d e
     exact ⟨v, ap_old q1, q2⟩
   · cases e
 · rcases ap_get e with e | ⟨hi, e⟩
   · obtain ⟨b, g1, g2, g3, g4⟩ := U.own i d e
     exact ⟨b, ap_old g1, g2, g3, g4⟩
   · cases e; subst hi
     exact ⟨a, by rw [U.len]; exact ap_new, R.fg a _ hU, hF, xs, R.fh a _ hU, r⟩
 · have old : ∀ {i : Nat} {d : D} {b : Addr}, ρ[i]? = some (.own d) → (σ ++ [some (V.ref a)])[i]? = some (some (.ref b)) → σ[i]? = some (some (.ref b)) := fun {i d b} e q => by
     obtain ⟨b', g1, _⟩ := U.own i d e
     rw [ap_old g1] at q; rw [g1]; exact q
   rcases ap_get h1 with e1 | ⟨hi, e1⟩
   · have k1 := old e1 r1
     rcases ap_get h2 with e2 | ⟨hj, e2⟩
     · exact U.ne i j d e b e1 e2 k1 (old e2 r2)
     · subst hj
       rw [U.len, ap_new] at r2; cases r2
       exact absurd k1 (nota i d e1)
   · rcases ap_get h2 with e2 | ⟨hj, e2⟩
     · subst hi
       rw [U.len, ap_new] at r1; cases r1
       exact absurd (old e2 r2) (nota j e e2)
     · rw [hi, hj]
theorem tk_get {l : List S} {n i : Nat} {s : S} (h : (l.take n)[i]? = some s) : l[i]? = some s ∧ i < n := by
 rw [List.getElem?_take] at h
 split at h
 · rename_i hn; exact ⟨h, hn⟩
 · cases h
theorem Rst.drop {x : Option V} {ρ2 : List S} (hl : ρ.length = σ.length) (par : ∀ (i : Nat) (d : D), ρ2[i]? = some (.own d) → i < ρ.length → i < c.s0.length → σ[i]? = c.s0[i]?) (R : Rst K ⟨c.F, []⟩ G H (σ ++ [x]) ρ2) : Rst K c G H σ (ρ2.take ρ.length) := by
 have old : ∀ {i : Nat} {y : Option V}, i < ρ.length → (σ ++ [x])[i]? = some y → σ[i]? = some y := fun {i y} hi q => by
  rw [List.getElem?_append_left (by omega)] at q; exact q
 have l2 := R.len
 rw [List.length_append] at l2
 refine ⟨R.fh, R.gh, R.fg, by rw [List.length_take, l2, ← hl]; simp, fun i d e => ?_, fun i d e => ?_, fun i j d e b h1 h2 r1 r2 => R.ne i j d e b (tk_get h1).1 (tk_get h2).1 (ap_old r1) (ap_old r2), fun i d e h => par i d (tk_get e).1 (tk_get e).2 h⟩
 · obtain ⟨e, hi⟩ := tk_get e
   obtain ⟨v, q1, q2⟩ := R.val i d e
   exact ⟨v, old hi q1, q2⟩
 · obtain ⟨e, hi⟩ := tk_get e
   obtain ⟨b, g1, g2⟩ := R.own i d e
   exact ⟨b, old hi g1, g2⟩
theorem RpR.drop {x : Option V} {ρ2 : List S} {c' : Cn} {r : Rv} {n : Nat} (hc : c'.F = c.F) (na : ∀ i, r ≠ .ali i) (h : RpR K c' G H (σ ++ [x]) ρ2 v r) : RpR K c G H σ (ρ2.take n) v r := by
 cases r with
 | val d => exact h
 | ali i => exact absurd rfl (na i)
 | own d =>
  obtain ⟨a, h1, h2, h3, h4, h5⟩ := h
  rw [hc] at h3 h4
  exact ⟨a, h1, h2, h3, h4, fun i e q z => h5 i e (tk_get q).1 (ap_old z)⟩
end
abbrev repAT (K : PySem.W.Frag) : Cn → Hp → Hp → L2.St → List S → List V → List Rv × List D → Prop := fun c G H σ ρ vs p => ∃ a, Rst K ⟨c.F, []⟩ G H (σ ++ [some (.ref a)]) (ρ ++ [.own (.lst p.2)]) ∧ RpRs K G (σ ++ [some (.ref a)]) vs p.1
structure DAT (X : Cx) (W : WX) (es : List Expr) (f : M (List Rv × List D)) : Prop where
 pa : PA X es (tg X.K W (repAT X.K) f)
def lstOf1 : Rv → Option (List D)
 | .own (.lst ds) => some ds
 | _ => none
def aTmpR (rs : List Rv) (ds : List D) : M (List Rv × List D) := fun ρ => some (.ok (.ali ρ.length :: rs, ds) ρ)
def aTmp (fa : M Rv) (ga : M (List Rv)) : M (List Rv × List D) := do
 let r ← fa
 let ds ← ofO (lstOf1 r)
 let rs ← ga
 aTmpR rs ds
def aConsT (fa : M Rv) (ga : M (List Rv × List D)) : M (List Rv × List D) := do
 let r ← fa
 let p ← ga
 pure (settle r :: p.1, p.2)
theorem RpRs.wide {K : PySem.W.Frag} {G : Hp} {σ : L2.St} {x : Option V} : ∀ {vs : List V} {rs : List Rv}, RpRs K G σ vs rs → RpRs K G (σ ++ [x]) vs rs
 | [], [], _ => trivial
 | v :: vs, .val d :: rs, ⟨h1, h2⟩ => ⟨h1, h2.wide⟩
 | v :: vs, .ali i :: rs, ⟨h1, h2⟩ => ⟨ap_old h1, h2.wide⟩
 | [], _ :: _, h => h.elim
 | _ :: _, [], h => h.elim
 | _ :: _, .own _ :: _, h => h.elim
section
variable {X : Cx} {W : WX} {e : Expr} {es : List Expr} {fa : M Rv}
theorem dat_tmp {ga : M (List Rv)} (he : DE X W e fa) (hr : DA X W es ga) (hs : starEach (e :: es) X.env = (false, eval e X.env) :: starEach es X.env := by rfl) : DAT X W (e :: es) (aTmp fa ga) :=
 ⟨(pa_cons he.pe hr.pa hs).weak fun σ H Q ⟨c, G, ρ, R, w⟩ => tg_step R (Same.refl G) w fun r ρ1 v G1 H1 R1 s1 _ k w1 => by
  obtain ⟨ds, eq, w2⟩ := ofO_wp (wpM_bind w1)
  have er : r = .own (.lst ds) := by
   cases r with
   | own d => cases d with
    | lst es => cases eq; rfl
    | _ => cases eq
   | _ => cases eq
  subst er
  obtain ⟨a, xs, hv, ha, hx, hF, Rh⟩ := R1.hide k
  subst hv
  refine ⟨{ c with F := upd c.F a (.lst xs) }, G1, ρ1, Rh, ?_⟩
  refine wpM_mono (wpM_bind w2) (fun rs ρ2 hk vs G2 H2 R2 s2 k2 => ?_) fun x ρ2 hx cls d G2 H2 R2 s2 xa => ?_
  · refine hk (.ref a :: vs) G2 H2 (R2.unhide hF) (s1.trans s2) ⟨a, R2.slot hF (hx.mono s2), ?_, k2.wide⟩
    rw [R2.len]; exact ap_new
  · exact hx cls d G2 H2 (R2.unhide hF) (s1.trans s2) xa⟩
end
def callT (mu : List Bool) (fn : Fn) (p : List Rv × List D) : M Rv := fun ρ => match callM mu fn p.1 (ρ ++ [.own (.lst p.2)]) with
 | some (.ok (.ali _) _) => none
 | some (.ok r ρ') => some (.ok r (ρ'.take ρ.length))
 | some (.ex e ρ') => some (.ex e (ρ'.take ρ.length))
 | none => none
theorem prep_own : ∀ {ms : List Bool} {rs : List Rv} {ρ : List S} {rs' : List Rv} {ρ' : List S}, prep ms rs ρ = some (.ok rs' ρ') → ∀ (i : Nat) (d : D), ρ'[i]? = some (.own d) → ρ[i]? = some (.own d) := by
 have tv : ∀ {r : Rv} {ρ ρ' : List S} {x : D}, toV r ρ = some (.ok x ρ') → ∀ (i : Nat) (d : D), ρ'[i]? = some (.own d) → ρ[i]? = some (.own d) := fun {r ρ ρ' x} h i d q => by
  cases r with
  | val e => cases h; exact q
  | own e => cases h; exact q
  | ali j =>
   unfold toV at h
   dsimp only at h
   cases z : ρ[j]? with
   | none => rw [z] at h; cases h
   | some s =>
    rw [z] at h
    cases s with
    | no => cases h
    | val e => cases h; exact q
    | own e =>
     cases h
     rcases set_cases q with ⟨_, _, e⟩ | ⟨_, q⟩
     · cases e
     · exact q
 intro ms rs
 induction rs generalizing ms with
 | nil => intro ρ rs' ρ' h i d q; have h : (pure [] : M (List Rv)) ρ = some (.ok rs' ρ') := by cases ms <;> first | exact h | (rename_i b _; cases b <;> exact h)
          cases h; exact q
 | cons r rs ih =>
  intro ρ rs' ρ' h i d q
  have go : ∀ ms', (do let d ← toV r; let rs' ← prep ms' rs; pure (Rv.val d :: rs') : M (List Rv)) ρ = some (.ok rs' ρ') → ρ[i]? = some (.own d) := fun ms' h => by
   rw [bind_eq] at h
   cases z : toV r ρ with
   | none => rw [z] at h; cases h
   | some o =>
    rw [z] at h
    cases o with
    | ex e ρ1 => cases h
    | ok x ρ1 =>
     have h : (prep ms' rs >>= fun rs' => pure (Rv.val x :: rs')) ρ1 = _ := h
     rw [bind_eq] at h
     cases z2 : prep ms' rs ρ1 with
     | none => rw [z2] at h; cases h
     | some o2 =>
      rw [z2] at h
      cases o2 with
      | ex e ρ2 => cases h
      | ok y ρ2 => cases h; exact tv z i d (ih z2 i d q)
  cases ms with
  | nil => exact go [] h
  | cons b ms =>
   cases b with
   | false => exact go ms h
   | true =>
    have h : (prep ms rs >>= fun rs' => pure (r :: rs')) ρ = _ := h
    rw [bind_eq] at h
    cases z2 : prep ms rs ρ with
    | none => rw [z2] at h; cases h
    | some o2 =>
     rw [z2] at h
     cases o2 with
     | ex e ρ2 => cases h
     | ok y ρ2 => cases h; exact ih z2 i d q
theorem callM_own {mu : List Bool} {fn : Fn} {rs : List Rv} {ρ : List S} {o : Ot Rv} (h : callM mu fn rs ρ = some o) : ∀ (i : Nat) (d : D), (match o with
 | .ok _ ρ' => ρ'[i]?
 | .ex _ ρ' => ρ'[i]?) = some (.own d) → ∃ e, ρ[i]? = some (.own e) := by
 intro i d q
 unfold callM at h
 cases z : prep mu rs ρ with
 | none => rw [z] at h; cases h
 | some o1 =>
  rw [z] at h
  cases o1 with
  | ex e ρ1 => cases h
  | ok rs' ρ1 =>
   dsimp only at h
   have bk : ∀ {ss' : List S}, (back rs' ss' ρ1)[i]? = some (.own d) → ∃ e, ρ[i]? = some (.own e) := fun {ss'} q => by
    rcases back_get q (by intro z; cases z) with ⟨h1, _⟩ | ⟨j, d', _, _, _, e, h4⟩
    · exact ⟨d, prep_own z i d h1⟩
    · exact ⟨e, prep_own z i e h4⟩
   split at h
   · cases z2 : ssOfs ρ1 rs' with
     | none => rw [z2] at h; cases h
     | some ss =>
      rw [z2] at h
      dsimp only at h
      cases z3 : fn ss with
      | none => rw [z3] at h; cases h
      | some o3 =>
       rw [z3] at h
       cases o3 with
       | ex e ss' => cases h; exact bk q
       | ret r ss' =>
        dsimp only at h
        split at h
        · cases h; exact ⟨d, q⟩
        · cases r with
          | ali i => cases h
          | val x => cases h; exact bk q
          | own x => cases h; exact bk q
   · cases h
def eCallT (mu : List Bool) (fn : Fn) (ga : M (List Rv × List D)) : M Rv := do
 let p ← ga
 callT mu fn p
section
variable {X : Cx} {W : WX} {x : Str} {k np : Nat} {fn : Fn} {mu : List Bool} {e : Expr} {es : List Expr} {ga : M (List Rv × List D)} {p pos : Pos}
end
end Dl
namespace Dl
open PySem L2
open PyProof.Rows hiding St
section
variable {X : Cx} {CX : CXT} {k n : Nat} {f : Addr} {fd : FuncData} {ps ks : List Str} {sp : Sp} {E : St → XK} {x : Str} {p pos : Pos} {e : Expr} {es : List Expr} {kws : List Keyword} {t tk : TA} {g : List Value → List Value → List Value} {gV : List V → List V → List V}
theorem _root_.L2.PK.weak {t t' : TA} (h : PK X kws t) (w : ∀ σ H Q, t' σ H Q → t σ H Q) : PK X kws t' := ⟨fun pos pins s σ H Q I q => h.run pos pins s σ H Q I (w σ H Q q)⟩
end
structure DK (X : Cx) (W : WX) (kws : List Keyword) (f : M (List Rv)) : Prop where
 pk : PK X kws (tDA X.K W f)
section
variable {X : Cx} {W : WX} {e : Expr} {kws : List Keyword} {nm : Option Str} {kpos : Pos} {f : M Rv} {g : M (List Rv)}
end
structure DFK (P : Program) (w : World) (K : PySem.W.Frag) (mg : Str → Option Value) (base : Heap) (x : Str) (k np n : Nat) (ks : List Str) (fn : Fn) : Prop where
 len : ∀ ss o, fn ss = some o → ss.length = np
 ex : ∃ (f : Addr) (fd : FuncData) (ps : List Str), mg x = some (.ref f) ∧ PySem.W.keepIn K (.ref f) = true ∧ KBn K fd ps n ks (fun us ws => us ++ ws) (fun vs zs => vs ++ zs) ∧ FnOk P w K mg base (L2N.CX P w) k f fd ps (spD K np fn)
theorem DFK.up {P : Program} {w : World} {K : PySem.W.Frag} {mg : Str → Option Value} {base : Heap} {x : Str} {j k np n : Nat} {ks : List Str} {fn : Fn} (F : DFK P w K mg base x j np n ks fn) (h : j ≤ k) : DFK P w K mg base x k np n ks fn :=
 let ⟨f, fd, ps, h1, h2, h3, h4⟩ := F.ex; ⟨F.len, f, fd, ps, h1, h2, h3, h4.mono h⟩
def eCallK (n m : Nat) (mu : List Bool) (fn : Fn) (ga gk : M (List Rv)) : M Rv := do
 let rs ← ga
 let zs ← gk
 if rs.length = n ∧ zs.length = m then callM mu fn (rs ++ zs) else M.fail
theorem RpRs.len {K : PySem.W.Frag} {G : Hp} {σ : L2.St} : ∀ {vs : List V} {rs : List Rv}, RpRs K G σ vs rs → vs.length = rs.length
 | [], [], _ => rfl
 | v :: vs, .val d :: rs, ⟨_, h2⟩ => by rw [List.length_cons, List.length_cons, h2.len]
 | v :: vs, .ali i :: rs, ⟨_, h2⟩ => by rw [List.length_cons, List.length_cons, h2.len]
 | [], _ :: _, h => h.elim
 | _ :: _, [], h => h.elim
 | _ :: _, .own _ :: _, h => h.elim
section
variable {X : Cx} {W : WX} {x : Str} {k np n : Nat} {ks : List Str} {fn : Fn} {mu : List Bool} {e : Expr} {es : List Expr} {kws : List Keyword} {ga gk : M (List Rv)} {p pos : Pos}
end
end Dl
namespace Dl
open PySem L2
section
variable {K : PySem.W.Frag} {c : Cn} {FA G H : Hp} {σ : L2.St} {ρ : List S} {A : Ar} {D0 b : Addr} {o : HO}
structure RstD (K : PySem.W.Frag) (c : Cn) (FA G H : Hp) (σ : L2.St) (ρ : List S) (A : Ar) (D0 : Addr) (o : HO) : Prop where
 rst : Rst K ((c.pl FA).with D0 o) G H σ ρ
 rep : RepA K G FA A
 dis : ∀ a o, c.F a = some o → FA a = none
 no : plus c.F FA D0 = none
theorem RstD.init (R : RstA K c FA G H σ ρ A) (hp : H D0 = none) (ho : ∀ b, o ≠ .own b) : RstD K c FA G (upd H D0 o) σ ρ A D0 o :=
 ⟨(R.rst.laid hp).keep upd_same (R.rst.g_none hp) ho (R.rst.not_slot hp), R.rep, R.dis, R.rst.f_none hp⟩
theorem RstD.store {o' : HO} (R : RstD K c FA G H σ ρ A D0 o) (ho : ∀ b, o ≠ .own b) : RstD K c FA G (upd H D0 o') σ ρ A D0 o' := ⟨R.rst.store ho, R.rep, R.dis, R.no⟩
theorem RstD.ground {G' : Hp} (R : RstD K c FA G H σ ρ A D0 o) {H' : Hp} (R' : Rst K ((c.pl FA).with D0 o) G' H' σ ρ) (s : Same G G') : RstD K c FA G' H' σ ρ A D0 o := ⟨R', R.rep.mono s, R.dis, R.no⟩
theorem RstD.node (R : RstD K c FA G H σ ρ A D0 o) (hb : H b = none) : b ∉ keys A ∧ RstD K c (upd FA b (.lst [])) G (upd H b (.lst [])) σ ρ ((b, []) :: A) D0 o := by
 have hFb : ((c.pl FA).with D0 o).F b = none := R.rst.f_none hb
 have hbD : b ≠ D0 := fun z => by
  have : upd (plus c.F FA) D0 o b = none := hFb
  rw [z, upd_same] at this; cases this
 have hpl : plus c.F FA b = none := by
  have : upd (plus c.F FA) D0 o b = none := hFb
  rw [upd_ne hbD] at this; exact this
 have hFA : FA b = none := by
  cases q : FA b with
  | none => rfl
  | some u => unfold plus at hpl; rw [q] at hpl; cases hpl
 have hcF : c.F b = none := by unfold plus at hpl; rw [hFA] at hpl; exact hpl
 have hk : b ∉ keys A := fun hm => by
  obtain ⟨p, hp, rfl⟩ := List.mem_map.mp hm
  obtain ⟨ys, h1, _⟩ := R.rep.at_ p.1 p.2 hp
  rw [hFA] at h1; cases h1
 have R2 : Rst K (((c.pl FA).with D0 o).with b (.lst [])) G (upd H b (.lst [])) σ ρ := (R.rst.laid hb).keep upd_same (R.rst.g_none hb) (fun b z => nomatch z) (R.rst.not_slot hb)
 have eF : ((c.pl FA).with D0 o).with b (.lst []) = (c.pl (upd FA b (.lst []))).with D0 o := by
  have : upd (upd (plus c.F FA) D0 o) b (.lst []) = upd (plus c.F (upd FA b (.lst []))) D0 o := funext fun x => by
   by_cases xb : x = b
   · subst xb
     rw [upd_same, upd_ne hbD]; unfold plus; rw [upd_same]
   · rw [upd_ne xb]
     by_cases xD : x = D0
     · subst xD; rw [upd_same, upd_same]
     · rw [upd_ne xD, upd_ne xD]; unfold plus; rw [upd_ne xb]
  show ({ c with F := upd (upd (plus c.F FA) D0 o) b (.lst []) } : Cn) = { c with F := upd (plus c.F (upd FA b (.lst []))) D0 o }
  rw [this]
 rw [eF] at R2
 refine ⟨hk, R2, ⟨List.nodup_cons.mpr ⟨hk, R.rep.nd⟩, fun a ds hm => ?_, fun a u e => ?_⟩, fun a u e => ?_, ?_⟩
 · rcases List.mem_cons.mp hm with e | hm
   · cases e; exact ⟨[], upd_same, rfl⟩
   · obtain ⟨xs, h1, h2⟩ := R.rep.at_ a ds hm
     have ha : a ≠ b := fun z => by rw [z, hFA] at h1; cases h1
     exact ⟨xs, by rw [upd_ne ha]; exact h1, h2⟩
 · by_cases ha : a = b
   · subst ha; exact List.mem_cons_self
   · rw [upd_ne ha] at e; exact List.mem_cons_of_mem _ (R.rep.dom a u e)
 · have ha : a ≠ b := fun z => by rw [z, hcF] at e; cases e
   rw [upd_ne ha]; exact R.dis a u e
 · show plus c.F (upd FA b (.lst [])) D0 = none
   have := R.no
   unfold plus at this ⊢
   rw [upd_ne (Ne.symm hbD)]; exact this
end
section
variable {X : Cx} {W : WX} {kx tg iter : Expr} {scope : Scope} {own : List (Str × Nat)} {pos lpos : Pos} {it : M (List D)} {v : Nat}
end
def lkD : List D → List D → Int → Option D
 | .int k :: ks, v :: vs, i => if k = i then some v else lkD ks vs i
 | _, _, _ => none
def dGetI (d e : D) : Option D := match d, e with
 | .dic ks vs, .int i => lkD ks vs i
 | _, _ => none
def eDIx (fa fb : M Rv) : M Rv := do
 let x ← fa
 let y ← fb
 let d ← peek (settle x)
 let e ← peek y
 let z ← ofO (dGetI d e)
 pure (.val z)
section
variable {X : Cx} {W : WX} {a b : Expr} {fa fb : M Rv} {pos : Pos}
end
section
variable {K : PySem.W.Frag} {c : Cn} {FA G H : Hp} {σ : L2.St} {ρ : List S} {A : Ar}
end
section
variable {X : Cx} {W : WX} {np : Nat} {sts : List Stmt} {w : MA} {e : Expr} {we : MEA Rv} {pos : Pos}
end
end Dl
namespace Dl
open PySem L2
section
variable {K : PySem.W.Frag} {c : Cn} {FA G H : Hp} {σ : L2.St} {ρ : List S} {A : Ar}
theorem RstA.drop (R : RstA K c FA G H σ ρ A) : RstA K c (fun _ => none) G H σ ρ [] := by
 have low : ∀ b, (c.pl FA).F b = none → c.F b = none := fun b hb => by
  have hb : plus c.F FA b = none := hb
  unfold plus at hb
  cases q : FA b with
  | none => rw [q] at hb; exact hb
  | some u => rw [q] at hb; cases hb
 have up : ∀ b u, c.F b = some u → (c.pl FA).F b = some u := fun b u e => by
  show plus c.F FA b = some u
  unfold plus
  rw [R.dis b u e]; exact e
 refine ⟨⟨fun b u e => R.rst.fh b u (up b u e), R.rst.gh, fun b u e => R.rst.fg b u (up b u e), R.rst.len, R.rst.val, fun i d e => ?_, R.rst.ne, R.rst.par⟩, ⟨List.nodup_nil, fun a ds hm => absurd hm List.not_mem_nil, fun a u e => nomatch e⟩, fun a u _ => rfl⟩
 obtain ⟨a, h1, h2, h3, h4⟩ := R.rst.own i d e
 exact ⟨a, h1, h2, low a h3, h4.fmono fun b _ hb => low b hb⟩
variable {X : Cx} {W : WX} {np : Nat} {e : Expr} {we : MEA Rv} {pos : Pos}
end
end Dl
namespace Dl
open PySem L2 PySem.Spec PyProof.Rows
abbrev PF : Type := D → Option (Option (List D))
abbrev PFs : Type := List D → Option (Option (List D))
def MatchR (K : PySem.W.Frag) (G : Hp) (ns : List Str) : Option (List D) → Option (List (Str × Value)) → Prop
 | none, none => True
 | some ds, some bs => bs.map (·.1) = ns ∧ ∃ vs, RpL K G ds vs ∧ Vals vs (bs.map (·.2))
 | _, _ => False
structure DPat (X : Cx) (p : Pattern) (ns : List Str) (f : PF) : Prop where
 star : p.isStar = false
 run : ∀ {pins : List (Addr × Obj)} {s : Shared} {σ : L2.St} {H : Hp} {c : Cn} {G : Hp} {ρ : List S} {d : D} {v : V} {u : Value} {r : Option (List D)}, Inv X pins σ H s → Rst X.K c G H σ ρ → Rp X.K G d v → RelV v u → f d = some r →
  ∀ {Q : Option (List (Str × Value)) → Shared → Prop}, (∀ s' G' H' bs, Inv X pins σ H' s' → Rst X.K c G' H' σ ρ → Same G G' → MatchR X.K G' ns r bs → Q bs s') → wpAny (model X.prog X.w) X.A (matchPattern p X.env u) Q X.xe s
structure DPats (X : Cx) (ps : List Pattern) (ns : List Str) (f : PFs) : Prop where
 run : ∀ {pins : List (Addr × Obj)} {s : Shared} {σ : L2.St} {H : Hp} {c : Cn} {G : Hp} {ρ : List S} {ds : List D} {vs : List V} {us : List Value} {r : Option (List D)}, Inv X pins σ H s → Rst X.K c G H σ ρ → RpL X.K G ds vs → Vals vs us → f ds = some r →
  ∀ {Q : Option (List (Str × Value)) → Shared → Prop}, (∀ s' G' H' bs, Inv X pins σ H' s' → Rst X.K c G' H' σ ρ → Same G G' → MatchR X.K G' ns r bs → Q bs s') → wpAny (model X.prog X.w) X.A (matchEach ps X.env us) Q X.xe s
def pCap : PF := fun d => some (some [d])
def pStr (x : Str) : PF := fun d => (dEqB d (.str x)).map fun b => if b = true then some [] else none
def pSeq (n : Nat) (f : PFs) : PF
 | .lst ds => if ds.length = n then f ds else some none
 | .tup ds => if ds.length = n then f ds else some none
 | .int _ => some none
 | .bl _ => some none
 | .str _ => some none
 | .non => some none
 | _ => none
def starD (n i : Nat) (ds : List D) : List D := ds.take i ++ [.lst ((ds.drop i).take (ds.length + 1 - n))] ++ (ds.drop i).drop (ds.length + 1 - n)
def pStar (n i : Nat) (f : PFs) : PF
 | .lst ds => if 16384 < ds.length then none else if ds.length + 1 < n then some none else f (starD n i ds)
 | .tup ds => if 16384 < ds.length then none else if ds.length + 1 < n then some none else f (starD n i ds)
 | .int _ => some none
 | .bl _ => some none
 | .str _ => some none
 | .non => some none
 | _ => none
def plNil : PFs := fun _ => some (some [])
def plCons (f : PF) (g : PFs) : PFs
 | [] => none
 | d :: ds => match f d with
  | none => none
  | some none => some none
  | some (some a) => match g ds with
   | none => none
   | some none => some none
   | some (some b) => some (some (a ++ b))
def plStar (g : PFs) : PFs
 | [] => none
 | d :: ds => match g ds with
  | none => none
  | some none => some none
  | some (some b) => some (some (d :: b))
section
variable {X : Cx} {W : WX} {np : Nat} {pos : Pos}
theorem dpat_cap {x : Str} : DPat X (.MatchAs none (some x) pos) [x] pCap := ⟨rfl, fun {pins s σ H c G ρ d v u r} I R k rv e {Q} hQ => by
 cases e
 exact wpAny_matchPattern_Capture (hQ s G H _ I R (Same.refl G) ⟨rfl, [v], RpL.one k, .cons rv .nil⟩)⟩
theorem dpat_str (hu : X.A.units + 64 < cLine) {x : Str} {j p2} : DPat X (.MatchValue (.Constant (.str x) j p2) pos) [] (pStr x) := ⟨rfl, fun {pins s σ H c G ρ d v u r} I R k rv e {Q} hQ => by
 unfold pStr at e
 obtain ⟨b, e1, e2⟩ := Option.map_eq_some_iff.mp e
 obtain ⟨p1, p2', q1, q2, s1, s2, eb⟩ := dEqB_some e1
 refine wpAny_matchPattern_Value ?_
 refine thn ((pe_str (X := X)).run pins s σ H (fun y H1 => y = .str x ∧ H1 = H) I ⟨rfl, rfl⟩) fun y s1' ⟨y', H1, I1, r1, ey, eH⟩ => ?_
 subst ey; subst eH
 have ky : Rp X.K G (.str x) (.str x) := rfl
 refine thn (op_eqD hu pins s1' σ H1 v (.str x) u y (fun q H2 => q = .bl b ∧ H2 = H1) I1 rv r1 ⟨p1, p2', Rh.dp (c := c) (.inl k) R.gh q1, Rh.dp (c := c) (.inl ky) R.gh q2, s1, s2, by rw [eb], rfl⟩) fun q s2' ⟨q', H2, I2, r2, eq, eH⟩ => ?_
 subst eq; subst eH
 have e3 : q = .bool b := r2
 subst e3
 refine wpAny_truthy_bool ?_
 subst e2
 cases b with
 | true => exact hQ s2' G H2 _ I2 R (Same.refl G) ⟨rfl, [], rfl, .nil⟩
 | false => exact hQ s2' G H2 _ I2 R (Same.refl G) trivial⟩
theorem dpats_nil : DPats X [] [] plNil := ⟨fun {pins s σ H c G ρ ds vs us r} I R k rv e {Q} hQ => by
 cases e
 exact wpAny_matchEach_nil (hQ s G H _ I R (Same.refl G) ⟨rfl, [], rfl, .nil⟩)⟩
theorem vals_app : ∀ {vs ws : List V} {us xs : List Value}, Vals vs us → Vals ws xs → Vals (vs ++ ws) (us ++ xs)
 | _, _, _, _, .nil, h => h
 | _, _, _, _, .cons a r, h => .cons a (vals_app r h)
theorem dpats_cons {p : Pattern} {ps : List Pattern} {ns ms : List Str} {f : PF} {g : PFs} (h : DPat X p ns f) (hs : DPats X ps ms g) : DPats X (p :: ps) (ns ++ ms) (plCons f g) := ⟨fun {pins s σ H c G ρ ds vs us r} I R k rv e {Q} hQ => by
 cases ds with
 | nil => cases e
 | cons d ds =>
  obtain ⟨v, vr, ev, k1, k2⟩ := k
  subst ev
  cases rv with
  | cons ru rs =>
  refine wpAny_matchEach_cons ?_ h.star
  unfold plCons at e
  dsimp only at e
  cases e1 : f d with
  | none => rw [e1] at e; cases e
  | some r1 =>
   rw [e1] at e
   refine h.run I R k1 ru e1 fun s1 G1 H1 bs I1 R1 s01 m1 => ?_
   cases r1 with
   | none =>
    cases e
    cases bs with
    | some _ => exact m1.elim
    | none => exact hQ s1 G1 H1 _ I1 R1 s01 trivial
   | some a =>
    cases bs with
    | none => exact m1.elim
    | some bs =>
    obtain ⟨n1, vs1, q1, q2⟩ := m1
    dsimp only at e ⊢
    cases e2 : g ds with
    | none => rw [e2] at e; cases e
    | some r2 =>
     rw [e2] at e
     refine hs.run I1 R1 (k2.mono s01) rs e2 fun s2 G2 H2 bs2 I2 R2 s12 m2 => ?_
     cases r2 with
     | none =>
      cases e
      cases bs2 with
      | some _ => exact m2.elim
      | none => exact hQ s2 G2 H2 _ I2 R2 (s01.trans s12) trivial
     | some b =>
      cases e
      cases bs2 with
      | none => exact m2.elim
      | some bs2 =>
       obtain ⟨n2, vs2, q3, q4⟩ := m2
       exact hQ s2 G2 H2 _ I2 R2 (s01.trans s12) ⟨by rw [List.map_append, n1, n2], vs1 ++ vs2, (q1.mono s12).append q3, by rw [List.map_append]; exact vals_app q2 q4⟩⟩
theorem dpats_star {x : Str} {ps : List Pattern} {ms : List Str} {g : PFs} (hs : DPats X ps ms g) : DPats X (.MatchStar (some x) pos :: ps) (x :: ms) (plStar g) := ⟨fun {pins s σ H c G ρ ds vs us r} I R k rv e {Q} hQ => by
 cases ds with
 | nil => cases e
 | cons d ds =>
  obtain ⟨v, vr, ev, k1, k2⟩ := k
  subst ev
  cases rv with
  | cons ru rs =>
  refine PySem.W.kun_each ?_
  unfold plStar at e
  dsimp only at e
  cases e2 : g ds with
  | none => rw [e2] at e; cases e
  | some r2 =>
   rw [e2] at e
   refine hs.run I R k2 rs e2 fun s2 G2 H2 bs2 I2 R2 s12 m2 => ?_
   cases r2 with
   | none =>
    cases e
    cases bs2 with
    | some _ => exact m2.elim
    | none => exact hQ s2 G2 H2 _ I2 R2 s12 trivial
   | some b =>
    cases e
    cases bs2 with
    | none => exact m2.elim
    | some bs2 =>
     obtain ⟨n2, vs2, q3, q4⟩ := m2
     exact hQ s2 G2 H2 _ I2 R2 s12 ⟨by show x :: bs2.map (·.1) = _; rw [n2], v :: vs2, ⟨v, vs2, rfl, k1.mono s12, q3⟩, .cons ru q4⟩⟩
theorem pat_none {ps : List Pattern} {pins : List (Addr × Obj)} {s : Shared} {σ : L2.St} {H : Hp} {u : Value} {Q : Option (List (Str × Value)) → Shared → Prop} {T : String} (hT : s.TypeIs u T) (hf : flagOfType true (.type T) = pure false) (h : Q none s) :
  wpAny (model X.prog X.w) X.A (matchPattern (.MatchSequence ps pos) X.env u) Q X.xe s := by
 rw [arm_matchPattern_MatchSequence]
 refine wpAny_bind (wpAny_standAt ?_)
 refine wpAny_bind (wpAny_collectionFlag hT hf ?_)
 exact wpAny_pure h
theorem plainL_list {s : Shared} {a : Addr} {its : Array Value} (pl : PlainL s.heap a its) : s.heap.IsList a its := by
 obtain ⟨o, m, e, c, d, q⟩ := pl
 exact ⟨o, e, c, m, q⟩
theorem szl {n : Nat} (h : n ≤ sizeLine) : (n : Int) < 2 ^ 63 := by
 rw [sizeLine_eq] at h
 omega
theorem dpat_seq (hc : X.calm = true) {ps : List Pattern} {ns : List Str} {g : PFs} (hs : DPats X ps ns g) (hstar : ps.findIdx? (·.isStar) = none := by rfl)
  (hwild : (ps.all fun p => p.isWildcard || (p.isStar && p.names.isEmpty)) = false := by rfl) : DPat X (.MatchSequence ps pos) ns (pSeq ps.length g) := ⟨rfl, fun {pins s σ H c G ρ d v u r} I R k rv e {Q} hQ => by
 have no : ∀ {T : String}, s.TypeIs u T → flagOfType true (.type T) = pure false → r = none → wpAny (model X.prog X.w) X.A (matchPattern (.MatchSequence ps pos) X.env u) Q X.xe s := fun {T} hT hf er => pat_none (pins := pins) (σ := σ) (H := H) hT hf (hQ s G H _ I R (Same.refl G) (by subst er; trivial))
 cases d with
 | int i => cases e; cases k; obtain ⟨t, rfl⟩ := rv; exact no (T := "int") rfl flag_seq_int rfl
 | bl b => cases e; cases k; cases rv; exact no (T := "bool") rfl flag_seq_bool rfl
 | str x => cases e; cases k; obtain ⟨t, rfl⟩ := rv; exact no (T := "str") rfl flag_seq_str rfl
 | non => cases e; cases k; cases rv; exact no (T := "NoneType") rfl flag_seq_None rfl
 | lst ds =>
  obtain ⟨a, xs, rfl, h1, h2⟩ := k
  cases rv
  obtain ⟨its, rvs, pl, hz⟩ := I.list (.inl (.inl (R.gh _ _ h1)))
  have hl := plainL_list pl
  have el : its.toArray.size = ds.length := by rw [List.size_toArray, ← rvs.length, h2.length]
  have hfit : (its.toArray.size : Int) < 2 ^ 63 := szl (by rw [el, ← h2.length]; exact hz)
  have e : (if ds.length = ps.length then g ds else some none) = some r := e
  by_cases hn : ds.length = ps.length
  · rw [if_pos hn] at e
    refine matchSeq_list_hit hl hfit (by rw [el, hn]) ?_ hstar hwild
    rw [← hn, ← el]
    refine PySem.W.kun_itemsOf (I.ok.hd hc) hl fun h' hx => ?_
    have I1 : Inv X pins σ H { s with heap := h', toks := s.toks + 1 + 1 } := I.kept fun b o e => hx b o (Nat.ne_of_lt (Heap.lt_size e)) e
    exact hs.run I1 R h2 (by simpa using rvs) e hQ
  · rw [if_neg hn] at e
    cases e
    exact matchSeq_list_miss hl hfit (by rw [el]; exact hn) (hQ _ G H _ (I.tok _) R (Same.refl G) trivial) hstar hwild
 | tup ds =>
  obtain ⟨a, xs, rfl, h1, h2⟩ := k
  cases rv
  obtain ⟨its, rvs, pl, hz⟩ := I.tuple (Same.seqt R.gh h1)
  have el : its.toArray.size = ds.length := by rw [List.size_toArray, ← rvs.length, h2.length]
  have hfit : (its.toArray.size : Int) < 2 ^ 63 := szl (by rw [el, ← h2.length]; exact hz)
  have e : (if ds.length = ps.length then g ds else some none) = some r := e
  by_cases hn : ds.length = ps.length
  · rw [if_pos hn] at e
    refine matchSeq_tuple_hit pl hfit (by rw [el, hn]) ?_ hstar hwild
    rw [← hn, ← el]
    refine unpackItems_tuple (I.ok.hd hc) pl fun h' hx => ?_
    have I1 : Inv X pins σ H { s with heap := h', toks := s.toks + 1 + 1 } := I.kept fun b o e => hx b o (Nat.ne_of_lt (Heap.lt_size e)) e
    exact hs.run I1 R h2 (by simpa using rvs) e hQ
  · rw [if_neg hn] at e
    cases e
    exact matchSeq_tuple_miss pl hfit (by rw [el]; exact hn) (hQ _ G H _ (I.tok _) R (Same.refl G) trivial) hstar hwild
 | _ => cases e⟩
end
end Dl
namespace Dl
open PySem L2 PySem.Spec PyProof.Rows
section
variable {prog : Program} {w : World} {A : Around} {E : Value → Shared → Prop} {s : Shared}
theorem unstarL {l : Addr} {items : Array Value} {n i : Nat} {Q : List Value → Shared → Prop} (hl : s.heap.IsList l items) (hh : A.handled = none) (hi : i < n) (hn : n ≤ items.size + 1) (hz : items.size ≤ 16384)
  (h : ∀ (h₂ : Heap) (tk : Nat), (∀ b o, s.heap.get? b = some o → h₂.get? b = some o) → Q (items.toList.take i ++ [.ref h₂.objs.size] ++ (items.toList.drop i).drop (items.size + 1 - n)) { s with heap := h₂.push { cls := .type "list", data := .seq ((items.toList.drop i).take (items.size + 1 - n)).toArray }, toks := tk }) : wpAny (model prog w) A (unpackItems (.ref l) n (some i)) Q E s := by
 have hlt : l ≠ s.heap.objs.size := by obtain ⟨o, ho, _⟩ := hl; exact Nat.ne_of_lt (Heap.lt_size ho)
 unfold unpackItems
 refine wpAny_bind ?_
 unfold notIterableAtAll
 refine wpAny_bind (wpAny_specialOf hl.typeIs slot_list_iter.lookup ?_)
 refine wpAny_pure ?_
 simp only [Bool.false_eq_true, if_false]
 refine wpAny_bind (wpAny_holding (wpAny_pyIter_list hl ?_))
 refine wpAny_bind (wpAny_holding (PySem.W.kun_draw hlt i 0 _ _ ⟨_, Heap.get?_push_size _ rfl, rfl, rfl⟩ (hl.push _) (by omega) fun h₁ hit₁ hs₁ => ?_))
 have hl₁ : h₁.IsList l items := (hl.push _).extBut hs₁.extBut hlt
 rw [Nat.zero_add] at hit₁
 have hit₁' := hit₁
 obtain ⟨oi, hoi, _⟩ := hit₁'
 have hl₁' := hl₁
 obtain ⟨ol, hol, _⟩ := hl₁'
 rw [List.drop_zero]
 have hfl : (items.toList.take i).length = i := by rw [List.length_take, Array.length_toList]; omega
 rw [if_neg (show ¬ ((items.toList.take i).length < i) by rw [hfl]; omega)]
 refine wpAny_bind (wpAny_holding (PySem.W.kun_collect (s := { s with heap := h₁ }) (T := "list_iterator") (.inr (.inr (.inl rfl))) (Walks.list (A := A.in1) hh s.heap.objs.size l hlt items) (fun j u st => st.1.typeIs) (k := i) (by omega) ⟨hit₁, hl₁⟩ (Heap.lt_size hoi) (Heap.lt_size hol) (fun h₂ tk hk => ?_) (by rw [sizeLine_eq]; omega)))
 have hrl : (items.toList.drop i).length = items.size - i := by rw [List.length_drop, Array.length_toList]
 have hmid : (items.toList.drop i).length - (n - 1 - i) = items.size + 1 - n := by rw [hrl]; omega
 show wpAny _ _ (if (items.toList.drop i).length < n - 1 - i then _ else _) _ _ _
 rw [if_neg (by rw [hrl]; omega)]
 show wpAny _ _ (newList ((items.toList.drop i).take ((items.toList.drop i).length - (n - 1 - i))) >>= fun d => pure (items.toList.take i ++ [d] ++ (items.toList.drop i).drop ((items.toList.drop i).length - (n - 1 - i)))) _ _ _
 rw [hmid]
 refine wpAny_bind (wpAny_newList (s := { s with heap := h₂, toks := tk }) (wpAny_pure ?_) (by rw [List.length_take, hrl, sizeLine_eq]; omega))
 exact h h₂ tk fun b o e => hk b o (Nat.ne_of_lt (Heap.lt_size e)) (hs₁.extBut b o (Nat.ne_of_lt (Heap.lt_size e)) (Heap.get?_push_of_some _ e))
theorem unstarT {l : Addr} {items : Array Value} {n i : Nat} {Q : List Value → Shared → Prop} (hl : IsTup s.heap l items) (hh : A.handled = none) (hi : i < n) (hn : n ≤ items.size + 1) (hz : items.size ≤ 16384)
  (h : ∀ (h₂ : Heap) (tk : Nat), (∀ b o, s.heap.get? b = some o → h₂.get? b = some o) → Q (items.toList.take i ++ [.ref h₂.objs.size] ++ (items.toList.drop i).drop (items.size + 1 - n)) { s with heap := h₂.push { cls := .type "list", data := .seq ((items.toList.drop i).take (items.size + 1 - n)).toArray }, toks := tk }) : wpAny (model prog w) A (unpackItems (.ref l) n (some i)) Q E s := by
 have hlt : l ≠ s.heap.objs.size := by obtain ⟨o, ho, _⟩ := hl; exact Nat.ne_of_lt (Heap.lt_size ho)
 unfold unpackItems
 refine wpAny_bind ?_
 unfold notIterableAtAll
 refine wpAny_bind (wpAny_specialOf hl.typeIs slot_tuple_iter.lookup ?_)
 refine wpAny_pure ?_
 simp only [Bool.false_eq_true, if_false]
 refine wpAny_bind (wpAny_holding (iter_tuple hl ?_))
 refine wpAny_bind (wpAny_holding (draw_tuple hlt i 0 _ _ ⟨_, Heap.get?_push_size _ rfl, rfl, rfl⟩ (hl.push _) (by omega) fun h₁ hit₁ hs₁ => ?_))
 have hl₁ : IsTup h₁ l items := (hl.push _).extBut hs₁.extBut hlt
 rw [Nat.zero_add] at hit₁
 have hit₁' := hit₁
 obtain ⟨oi, hoi, _⟩ := hit₁'
 have hl₁' := hl₁
 obtain ⟨ol, hol, _⟩ := hl₁'
 rw [List.drop_zero]
 have hfl : (items.toList.take i).length = i := by rw [List.length_take, Array.length_toList]; omega
 rw [if_neg (show ¬ ((items.toList.take i).length < i) by rw [hfl]; omega)]
 refine wpAny_bind (wpAny_holding (PySem.W.kun_collect (s := { s with heap := h₁ }) (T := "tuple_iterator") (.inr (.inr (.inr rfl))) (Walks.tuple (A := A.in1) hh s.heap.objs.size l hlt items) (fun j u st => st.1.typeIs) (k := i) (by omega) ⟨hit₁, hl₁⟩ (Heap.lt_size hoi) (Heap.lt_size hol) (fun h₂ tk hk => ?_) (by rw [sizeLine_eq]; omega)))
 have hrl : (items.toList.drop i).length = items.size - i := by rw [List.length_drop, Array.length_toList]
 have hmid : (items.toList.drop i).length - (n - 1 - i) = items.size + 1 - n := by rw [hrl]; omega
 show wpAny _ _ (if (items.toList.drop i).length < n - 1 - i then _ else _) _ _ _
 rw [if_neg (by rw [hrl]; omega)]
 show wpAny _ _ (newList ((items.toList.drop i).take ((items.toList.drop i).length - (n - 1 - i))) >>= fun d => pure (items.toList.take i ++ [d] ++ (items.toList.drop i).drop ((items.toList.drop i).length - (n - 1 - i)))) _ _ _
 rw [hmid]
 refine wpAny_bind (wpAny_newList (s := { s with heap := h₂, toks := tk }) (wpAny_pure ?_) (by rw [List.length_take, hrl, sizeLine_eq]; omega))
 exact h h₂ tk fun b o e => hk b o (Nat.ne_of_lt (Heap.lt_size e)) (hs₁.extBut b o (Nat.ne_of_lt (Heap.lt_size e)) (Heap.get?_push_of_some _ e))
end
end Dl
namespace Dl
open PySem L2 PySem.Spec PyProof.Rows
theorem vals_take : ∀ {vs : List V} {us : List Value} (i : Nat), Vals vs us → Vals (vs.take i) (us.take i)
 | _, _, 0, _ => by simp only [List.take_zero]; exact .nil
 | _, _, i + 1, .nil => .nil
 | _, _, i + 1, .cons a r => .cons a (vals_take i r)
theorem vals_drop : ∀ {vs : List V} {us : List Value} (i : Nat), Vals vs us → Vals (vs.drop i) (us.drop i)
 | _, _, 0, h => h
 | _, _, i + 1, .nil => .nil
 | _, _, i + 1, .cons a r => vals_drop i r
section
variable {X : Cx} {W : WX} {np : Nat} {pos : Pos}
theorem star_run {ps : List Pattern} {ns : List Str} {g : PFs} {pins : List (Addr × Obj)} {s : Shared} {σ : L2.St} {H : Hp} {c : Cn} {G : Hp} {ρ : List S} {ds : List D} {xs : List V} {its : List Value} {r : Option (List D)} {n i tk : Nat} {h₂ : Heap}
  (hs : DPats X ps ns g) (I : Inv X pins σ H s) (R : Rst X.K c G H σ ρ) (h2 : RpL X.K G ds xs) (rvs : Vals xs its) (hz : ds.length ≤ 16384) (e : g (starD n i ds) = some r) {Q : Option (List (Str × Value)) → Shared → Prop}
  (hQ : ∀ s' G' H' bs, Inv X pins σ H' s' → Rst X.K c G' H' σ ρ → Same G G' → MatchR X.K G' ns r bs → Q bs s') (keep : ∀ b o, s.heap.get? b = some o → h₂.get? b = some o) :
  wpAny (model X.prog X.w) X.A (matchEach ps X.env (its.toArray.toList.take i ++ [.ref h₂.objs.size] ++ (its.toArray.toList.drop i).drop (its.toArray.size + 1 - n))) Q X.xe
   { s with heap := h₂.push { cls := .type "list", data := .seq ((its.toArray.toList.drop i).take (its.toArray.size + 1 - n)).toArray }, toks := tk } := by
 have I1 : Inv X pins σ H { s with heap := h₂, toks := tk } := I.kept keep
 have hf : H h₂.objs.size = none := I1.hok.fresh (Nat.le_refl _)
 have el : its.toArray.size = ds.length := by rw [List.size_toArray, ← rvs.length, h2.length]
 have et : its.toArray.toList = its := rfl
 rw [el, et]
 have rm : Vals ((xs.drop i).take (ds.length + 1 - n)) ((its.drop i).take (ds.length + 1 - n)) := vals_take _ (vals_drop _ rvs)
 have km : RpL X.K G ((ds.drop i).take (ds.length + 1 - n)) ((xs.drop i).take (ds.length + 1 - n)) := (h2.drop i).take _
 have ml : ((xs.drop i).take (ds.length + 1 - n)).length ≤ sizeLine := by
  have := h2.length
  rw [List.length_take, List.length_drop, sizeLine_eq]
  omega
 have I2 : Inv X pins σ (upd H h₂.objs.size (.lst ((xs.drop i).take (ds.length + 1 - n)))) { s with heap := h₂.push { cls := .type "list", data := .seq ((its.drop i).take (ds.length + 1 - n)).toArray }, toks := tk } :=
  I1.laid (t' := tk) (fun b u e => Heap.get?_push_of_some _ e) (Nat.le_refl _) ⟨ml, _, 0, rm, Heap.get?_push_size _ rfl⟩
 obtain ⟨R2, k2⟩ := R.new_own hf km
 obtain ⟨G', s', R3, k3⟩ := R2.freeze_new k2
 refine hs.run I2 R3 (ds := starD n i ds) (vs := xs.take i ++ [V.ref h₂.objs.size] ++ (xs.drop i).drop (ds.length + 1 - n)) ?_ ?_ e fun s3 G3 H3 bs I3 R4 s4 m => hQ s3 G3 H3 bs I3 R4 (s'.trans s4) m
 · exact (((h2.mono s').take i).append (RpL.one k3)).append (((h2.mono s').drop i).drop _)
 · exact vals_app (vals_app (vals_take i rvs) (.cons rfl .nil)) (vals_drop _ (vals_drop _ rvs))
theorem dpat_starseq (hc : X.calm = true) {ps : List Pattern} {ns : List Str} {g : PFs} {i : Nat} (hs : DPats X ps ns g) (hstar : ps.findIdx? (·.isStar) = some i := by rfl)
  (hwild : (ps.all fun p => p.isWildcard || (p.isStar && p.names.isEmpty)) = false := by rfl) (hname : (ps[i]?.elim [] (·.names)).isEmpty = false := by rfl) (h1 : ps.length > 1 := by decide) : DPat X (.MatchSequence ps pos) ns (pStar ps.length i g) := ⟨rfl, fun {pins s σ H c G ρ d v u r} I R k rv e {Q} hQ => by
 have no : ∀ {T : String}, s.TypeIs u T → flagOfType true (.type T) = pure false → r = none → wpAny (model X.prog X.w) X.A (matchPattern (.MatchSequence ps pos) X.env u) Q X.xe s := fun {T} hT hf er => pat_none (pins := pins) (σ := σ) (H := H) hT hf (hQ s G H _ I R (Same.refl G) (by subst er; trivial))
 have hin : i < ps.length := (List.findIdx?_eq_some_iff_getElem.mp hstar).1
 cases d with
 | int i => cases e; cases k; obtain ⟨t, rfl⟩ := rv; exact no (T := "int") rfl flag_seq_int rfl
 | bl b => cases e; cases k; cases rv; exact no (T := "bool") rfl flag_seq_bool rfl
 | str x => cases e; cases k; obtain ⟨t, rfl⟩ := rv; exact no (T := "str") rfl flag_seq_str rfl
 | non => cases e; cases k; cases rv; exact no (T := "NoneType") rfl flag_seq_None rfl
 | lst ds =>
  obtain ⟨a, xs, rfl, q1, h2⟩ := k
  cases rv
  obtain ⟨its, rvs, pl, hz⟩ := I.list (.inl (.inl (R.gh _ _ q1)))
  have hl := plainL_list pl
  have el : its.toArray.size = ds.length := by rw [List.size_toArray, ← rvs.length, h2.length]
  have hfit : (its.toArray.size : Int) < 2 ^ 63 := szl (by rw [el, ← h2.length]; exact hz)
  have e : (if 16384 < ds.length then none else if ds.length + 1 < ps.length then some none else g (starD ps.length i ds)) = some r := e
  by_cases hb : 16384 < ds.length
  · rw [if_pos hb] at e; cases e
  · rw [if_neg hb] at e
    by_cases hn : ds.length + 1 < ps.length
    · rw [if_pos hn] at e
      cases e
      exact PySem.W.kun_fewL hl hfit hstar h1 (by rw [el]; exact hn) (hQ _ G H _ (I.tok _) R (Same.refl G) trivial)
    · rw [if_neg hn] at e
      refine PySem.W.kun_seqL hl hfit hstar hwild hname h1 (by rw [el]; omega) ?_
      refine unstarL (s := { s with toks := s.toks + 1 + 1 }) hl (I.ok.hd hc) hin (by rw [el]; omega) (by rw [el]; omega) fun h₂ tk keep => ?_
      exact star_run hs (I.tok _) R h2 rvs (by omega) e hQ keep
 | tup ds =>
  obtain ⟨a, xs, rfl, q1, h2⟩ := k
  cases rv
  obtain ⟨its, rvs, pl, hz⟩ := I.tuple (Same.seqt R.gh q1)
  have el : its.toArray.size = ds.length := by rw [List.size_toArray, ← rvs.length, h2.length]
  have hfit : (its.toArray.size : Int) < 2 ^ 63 := szl (by rw [el, ← h2.length]; exact hz)
  have e : (if 16384 < ds.length then none else if ds.length + 1 < ps.length then some none else g (starD ps.length i ds)) = some r := e
  by_cases hb : 16384 < ds.length
  · rw [if_pos hb] at e; cases e
  · rw [if_neg hb] at e
    by_cases hn : ds.length + 1 < ps.length
    · rw [if_pos hn] at e
      cases e
      exact PySem.W.kun_fewT pl hfit hstar h1 (by rw [el]; exact hn) (hQ _ G H _ (I.tok _) R (Same.refl G) trivial)
    · rw [if_neg hn] at e
      refine PySem.W.kun_seqT pl hfit hstar hwild hname h1 (by rw [el]; omega) ?_
      refine unstarT (s := { s with toks := s.toks + 1 + 1 }) pl (I.ok.hd hc) hin (by rw [el]; omega) (by rw [el]; omega) fun h₂ tk keep => ?_
      exact star_run hs (I.tok _) R h2 rvs (by omega) e hQ keep
 | _ => cases e⟩
def setD : List Nat → List D → List S → List S
 | i :: is, d :: ds, ρ => setD is ds (ρ.set i (.val d))
 | _, _, ρ => ρ
abbrev CF : Type := D → MS
def kNil : CF := fun _ ρ => some (.nx ρ)
def kCase (f : PF) (is : List Nat) (b : MS) (r : CF) : CF := fun d ρ => match f d with
 | none => none
 | some none => r d ρ
 | some (some ds) => b (setD is ds ρ)
def kCaseG (f : PF) (is : List Nat) (t : M Bool) (b : MS) (r : CF) : CF := fun d ρ => match f d with
 | none => none
 | some none => r d ρ
 | some (some ds) => thenS t (fun ok => if ok = true then b else r d) (setD is ds ρ)
def sMatch (fe : M Rv) (r : CF) : MS := thenS (do let x ← fe; toV x) r
structure DCs (X : Cx) (W : WX) (np : Nat) (cs : List MatchCase) (f : CF) : Prop where
 run : ∀ {pins : List (Addr × Obj)} {s : Shared} {σ : L2.St} {H : Hp} {c : Cn} {G : Hp} {ρ : List S} {d : D} {v : V} {u : Value} {o : Os} {Dn : Ends} {first : Bool}, c.s0.length = np → Inv X pins σ H s → Rst X.K c G H σ ρ → Rp X.K G d v → RelV v u → f d ρ = some o → Po X.K c W G Dn o →
  wpAny (model X.prog X.w) X.A (matchCases cs X.env u first) (SP X pins Dn) X.xe s
inductive Nms (X : Cx) : List Str → List Nat → Prop
 | nil : Nms X [] []
 | cons {x : Str} {i : Nat} {ns : List Str} {is : List Nat} (hi : X.N[i]? = some x) (hx : Loc X.env.scope x) (hf : X.fn x = true ∨ X.env.scope.names.lookup x = some .local) (h : Nms X ns is) : Nms X (x :: ns) (i :: is)
theorem bind_names (hN : X.N.Nodup) {ns : List Str} {is : List Nat} (nm : Nms X ns is) : ∀ (bs : List (Str × Value)) (ds : List D) (vs : List V) (pins : List (Addr × Obj)) (s : Shared) (σ : L2.St) (H : Hp) (c : Cn) (G : Hp) (ρ : List S) (Q : Unit → Shared → Prop), bs.map (·.1) = ns → RpL X.K G ds vs → Vals vs (bs.map (·.2)) → Inv X pins σ H s → Rst X.K c G H σ ρ →
  (∀ s' σ', Inv X pins σ' H s' → Rst X.K c G H σ' (setD is ds ρ) → Q () s') → wpAny (model X.prog X.w) X.A (assignInOrder (bs.map fun (n, _) => bindName X.env n) (bs.map (·.2))) Q X.xe s := by
 induction nm with
 | nil =>
  intro bs ds vs pins s σ H c G ρ Q e k r I R h
  cases bs with
  | cons b bs => cases e
  | nil =>
   refine wpAny_assignInOrder_none (h s σ I ?_)
   unfold setD; exact R
 | cons hi hx hf nm ih =>
  intro bs ds vs pins s σ H c G ρ Q e k r I R h
  cases bs with
  | nil => cases e
  | cons b bs =>
  obtain ⟨n, u⟩ := b
  obtain ⟨e1, e2⟩ := List.cons.inj e
  have e1 : n = _ := e1
  subst e1
  cases r with
  | @cons v _ vr _ ru rr =>
  cases ds with
  | nil => cases k
  | cons d ds =>
  obtain ⟨v', vr', ev, k1, k2⟩ := k
  cases ev
  refine wpAny_assignInOrder_more (wpAny_bindName ?_)
  refine store_ok I hN hi hx ru (fun s1 I1 => ?_) hf
  exact ih bs ds vr pins s1 _ H c G _ Q e2 k2 rr I1 (R.set_val _ k1) h
theorem dcs_nil : DCs X W np [] kNil := ⟨fun {pins s σ H c G ρ d v u o Dn first} hl I R k rv e po => by
 cases e
 exact wpAny_matchCases_nil ⟨σ, H, I, po σ G H R (Same.refl G)⟩⟩
theorem dcs_cons (hN : X.N.Nodup) {p : Pattern} {ns : List Str} {is : List Nat} {f : PF} {sts : List Stmt} {b : MS} {cs : List MatchCase} {r : CF} (hp : DPat X p ns f) (nm : Nms X ns is) (hb : DL X W np sts b) (hr : DCs X W np cs r) : DCs X W np (⟨p, none, sts⟩ :: cs) (kCase f is b r) := ⟨fun {pins s σ H c G ρ d v u o Dn first} hl I R k rv e po => by
 refine wpAny_matchCases_cons ?_
 unfold kCase at e
 cases e1 : f d with
 | none => rw [e1] at e; cases e
 | some q =>
  rw [e1] at e
  refine hp.run I R k rv e1 fun s1 G1 H1 bs I1 R1 s01 m1 => ?_
  cases q with
  | none =>
   cases bs with
   | some _ => exact m1.elim
   | none => exact hr.run hl I1 R1 (Rp.mono s01 d v k) rv e (po.mono s01)
  | some ds =>
   cases bs with
   | none => exact m1.elim
   | some bs =>
    obtain ⟨n1, vs1, q1, q2⟩ := m1
    refine bind_names hN nm _ _ _ _ _ _ _ _ _ _ _ n1 q1 q2 I1 R1 fun s2 σ2 I2 R2 => ?_
    exact hb.pss.run pins s2 σ2 H1 Dn I2 ⟨c, G1, _, o, hl, R2, e, po.mono s01⟩⟩
theorem dcs_guard (hN : X.N.Nodup) {p : Pattern} {ns : List Str} {is : List Nat} {f : PF} {ge : Expr} {t : M Bool} {sts : List Stmt} {b : MS} {cs : List MatchCase} {r : CF} (hp : DPat X p ns f) (nm : Nms X ns is) (hg : DT X W ge t) (hb : DL X W np sts b) (hr : DCs X W np cs r) : DCs X W np (⟨p, some ge, sts⟩ :: cs) (kCaseG f is t b r) := ⟨fun {pins s σ H c G ρ d v u o Dn first} hl I R k rv e po => by
 refine wpAny_matchCases_cons ?_
 unfold kCaseG at e
 cases e1 : f d with
 | none => rw [e1] at e; cases e
 | some q =>
  rw [e1] at e
  refine hp.run I R k rv e1 fun s1 G1 H1 bs I1 R1 s01 m1 => ?_
  cases q with
  | none =>
   cases bs with
   | some _ => exact m1.elim
   | none => exact hr.run hl I1 R1 (Rp.mono s01 d v k) rv e (po.mono s01)
  | some ds =>
   cases bs with
   | none => exact m1.elim
   | some bs =>
    obtain ⟨n1, vs1, q1, q2⟩ := m1
    refine bind_names hN nm _ _ _ _ _ _ _ _ _ _ _ n1 q1 q2 I1 R1 fun s2 σ2 I2 R2 => ?_
    have po1 := po.mono s01
    refine thn (hg.pt.run pins s2 σ2 H1 (fun ok H2 => ∃ G2 ρ2, Rst X.K c G2 H2 σ2 ρ2 ∧ Same G1 G2 ∧ (if ok = true then b else r d) ρ2 = some o) I2 ⟨c, G1, _, R2, wpM_mono (thenS_wp e) (fun ok ρ1 h1 ok' G2 H2 R3 s3 eb => ?_) fun e ρ1 he => by subst he; exact EXk.of_po po1⟩) fun ok s3 ⟨H2, I3, G2, ρ2, R3, s3', h3⟩ => ?_
    · subst eb; exact ⟨G2, ρ1, R3, s3, h1⟩
    · cases ok with
      | true => exact hb.pss.run pins s3 σ2 H2 Dn I3 ⟨c, G2, _, o, hl, R3, h3, po1.mono s3'⟩
      | false => exact hr.run hl I3 R3 (Rp.mono (s01.trans s3') d v k) rv h3 (po1.mono s3')⟩
theorem ds_match {e : Expr} {fe : M Rv} {cs : List MatchCase} {r : CF} (he : DE X W e fe) (hc : DCs X W np cs r) : DS X W np (.Match e cs pos) (sMatch fe r) := ⟨⟨fun pins s σ H Dn I ⟨c, G, ρ, o, hl, R, h, po⟩ => by
 refine wpAny_Match ?_
 have hw := thenS_wp h
 refine thn (he.pe.run pins s σ H (fun v H1 => ∃ G1 ρ1 d, Rst X.K c G1 H1 σ ρ1 ∧ Same G G1 ∧ Rp X.K G1 d v ∧ r d ρ1 = some o) I (tg_step R (Same.refl G) (wpM_mono hw (fun _ _ h => h) (fun e ρ1 he => by subst he; exact EXk.of_po po)) fun x ρ1 v G1 H1 R1 s1 _ k1 w1 => ?_)) fun u s1 ⟨v, H1, I1, rv, G1, ρ1, d, R1, s01, k1, h1⟩ => ?_
 · obtain ⟨d, G2, ρ2, s2, R2, k2, hq⟩ := toV_wp R1 k1 w1
   exact ⟨G2, ρ2, d, R2, s1.trans s2, k2, hq⟩
 · exact hc.run hl I1 R1 k1 rv h1 (po.mono s01)⟩⟩
end
end Dl
namespace Dl
open PySem L2
abbrev P2 : Type := List Rv × List D × List D
abbrev repAT2 (K : PySem.W.Frag) : Cn → Hp → Hp → L2.St → List S → List V → P2 → Prop := fun c G H σ ρ vs p => ∃ a b, Rst K ⟨c.F, []⟩ G H (σ ++ [some (.ref b)] ++ [some (.ref a)]) (ρ ++ [.own (.lst p.2.2)] ++ [.own (.lst p.2.1)]) ∧ RpRs K G (σ ++ [some (.ref b)] ++ [some (.ref a)]) vs p.1
structure DAT2 (X : Cx) (W : WX) (es : List Expr) (f : M P2) : Prop where
 pa : PA X es (tg X.K W (repAT2 X.K) f)
def aTmp2R (p : List Rv × List D) (ds : List D) : M P2 := fun ρ => some (.ok (.ali (ρ.length + 1) :: p.1, ds, p.2) ρ)
def aTmp2 (fa : M Rv) (ga : M (List Rv × List D)) : M P2 := do
 let r ← fa
 let ds ← ofO (lstOf1 r)
 let p ← ga
 aTmp2R p ds
def aConsT2 (fa : M Rv) (ga : M P2) : M P2 := do
 let r ← fa
 let p ← ga
 pure (settle r :: p.1, p.2)
section
variable {X : Cx} {W : WX} {e : Expr} {es : List Expr} {fa : M Rv}
theorem dat_tmp2 {ga : M (List Rv × List D)} (he : DE X W e fa) (hr : DAT X W es ga) (hs : starEach (e :: es) X.env = (false, eval e X.env) :: starEach es X.env := by rfl) : DAT2 X W (e :: es) (aTmp2 fa ga) :=
 ⟨(pa_cons he.pe hr.pa hs).weak fun σ H Q ⟨c, G, ρ, R, w⟩ => tg_step R (Same.refl G) w fun r ρ1 v G1 H1 R1 s1 _ k w1 => by
  obtain ⟨ds, eq, w2⟩ := ofO_wp (wpM_bind w1)
  have er : r = .own (.lst ds) := by
   cases r with
   | own d => cases d with
    | lst es => cases eq; rfl
    | _ => cases eq
   | _ => cases eq
  subst er
  obtain ⟨a, xs, hv, ha, hx, hF, Rh⟩ := R1.hide k
  subst hv
  refine ⟨{ c with F := upd c.F a (.lst xs) }, G1, ρ1, Rh, ?_⟩
  refine wpM_mono (wpM_bind w2) (fun p ρ2 hk vs G2 H2 R2 s2 ⟨b, k2, k3⟩ => ?_) fun x ρ2 hx cls d G2 H2 R2 s2 xa => ?_
  · have k2' : Rst X.K { (⟨c.F, []⟩ : Cn) with F := upd c.F a (.lst xs) } G2 H2 (σ ++ [some (.ref b)]) (ρ2 ++ [.own (.lst p.2)]) := k2
    refine hk (.ref a :: vs) G2 H2 (R2.unhide hF) (s1.trans s2) ⟨a, b, Rst.slot (c := ⟨c.F, []⟩) hF k2' (hx.mono s2), ?_, k3.wide⟩
    have hl : (σ ++ [some (V.ref b)]).length = ρ2.length + 1 := by rw [List.length_append, R2.len]; rfl
    show (σ ++ [some (V.ref b)] ++ [some (V.ref a)])[ρ2.length + 1]? = _
    rw [← hl]; exact ap_new
  · exact hx cls d G2 H2 (R2.unhide hF) (s1.trans s2) xa⟩
theorem dat_cons2 {ga : M P2} (he : DE X W e fa) (hr : DAT2 X W es ga) (hs : starEach (e :: es) X.env = (false, eval e X.env) :: starEach es X.env := by rfl) : DAT2 X W (e :: es) (aConsT2 fa ga) :=
 ⟨(pa_cons he.pe hr.pa hs).weak fun σ H Q ⟨c, G, ρ, R, w⟩ => tg_step R (Same.refl G) w fun r ρ1 v G1 H1 R1 s1 _ k w1 => by
  obtain ⟨G1', s1', R1', k'⟩ := settle_ok R1 k
  exact tg_step R1' (s1.trans s1') w1 fun p ρ2 vs G2 H2 R2 s2 s12 ⟨a, b, k2, k3⟩ w2 => w2 (v :: vs) G2 H2 R2 s2 ⟨a, b, k2, RpRs.cons (k'.mono s12).wide.wide k3⟩⟩
end
def callT2 (mu : List Bool) (fn : Fn) (p : P2) : M Rv := fun ρ => match callM mu fn p.1 (ρ ++ [.own (.lst p.2.2)] ++ [.own (.lst p.2.1)]) with
 | some (.ok (.ali _) _) => none
 | some (.ok r ρ') => some (.ok r (ρ'.take ρ.length))
 | some (.ex e ρ') => some (.ex e (ρ'.take ρ.length))
 | none => none
theorem Rst.drop2 {K : PySem.W.Frag} {c : Cn} {G H : Hp} {σ : L2.St} {ρ ρ2 : List S} {x y : Option V} (hl : ρ.length = σ.length) (par : ∀ (i : Nat) (d : D), ρ2[i]? = some (.own d) → i < ρ.length → i < c.s0.length → σ[i]? = c.s0[i]?) (R : Rst K ⟨c.F, []⟩ G H (σ ++ [x] ++ [y]) ρ2) : Rst K c G H σ (ρ2.take ρ.length) := by
 have h1 := Rst.drop (c := ⟨c.F, []⟩) (ρ := ρ ++ [S.no]) (by rw [List.length_append, List.length_append, hl]; rfl) (fun i d e h1 h2 => absurd h2 (Nat.not_lt_zero _)) R
 have h2 := Rst.drop (c := c) (ρ := ρ) hl (fun i d e h1 h2 => par i d (tk_get e).1 h1 h2) h1
 rw [List.take_take, List.length_append] at h2
 rw [Nat.min_eq_left (Nat.le_add_right _ _)] at h2
 exact h2
theorem RpR.drop2 {K : PySem.W.Frag} {c : Cn} {G H : Hp} {σ : L2.St} {v : V} {x y : Option V} {ρ2 : List S} {r : Rv} {n : Nat} (na : ∀ i, r ≠ .ali i) (h : RpR K ⟨c.F, []⟩ G H (σ ++ [x] ++ [y]) ρ2 v r) : RpR K c G H σ (ρ2.take n) v r := by
 have h1 := RpR.drop (c := ⟨c.F, []⟩) (c' := ⟨c.F, []⟩) (n := ρ2.length) rfl na h
 have h2 := RpR.drop (c := c) (c' := ⟨c.F, []⟩) (n := n) rfl na h1
 rw [List.take_length] at h2
 exact h2
theorem call_spT2 {X : Cx} {W : WX} {np : Nat} {fn : Fn} {mu : List Bool} {c : Cn} {G0 G H : Hp} {σ : L2.St} {ρ : List S} {p : P2} {vs : List V} {Q : VK} (R : Rst X.K c G H σ ρ) (s0 : Same G0 G) (hv : repAT2 X.K c G H σ ρ vs p) (hl : ∀ ss o, fn ss = some o → ss.length = np)
  (w : wpM (callT2 mu fn p ρ) (fun r ρ' => ∀ v G' H', Rst X.K c G' H' σ ρ' → Same G0 G' → RpR X.K c G' H' σ ρ' v r → Q v H') (EXk X.K c W σ G0)) : spD X.K np fn vs H Q (WE W σ) := by
 obtain ⟨a, b, R2, k⟩ := hv
 have par : ∀ {o : Ot Rv}, callM mu fn p.1 (ρ ++ [.own (.lst p.2.2)] ++ [.own (.lst p.2.1)]) = some o → ∀ (i : Nat) (d : D), (match o with
  | .ok _ ρ' => ρ'[i]?
  | .ex _ ρ' => ρ'[i]?) = some (.own d) → i < ρ.length → i < c.s0.length → σ[i]? = c.s0[i]? := fun {o} h i d q h1 h2 => by
  obtain ⟨e, he⟩ := callM_own h i d q
  rcases ap_get he with he | ⟨h3, _⟩
  · rcases ap_get he with he | ⟨h3, _⟩
    · exact R.par i e he h2
    · omega
  · rw [List.length_append] at h3
    have h3 : i = ρ.length + 1 := h3
    omega
 refine call_sp (W := fun cls d _ H => W cls d σ H) (c := ⟨c.F, []⟩) (mu := mu) R2 s0 k hl ?_
 unfold callT2 at w
 cases q : callM mu fn p.1 (ρ ++ [.own (.lst p.2.2)] ++ [.own (.lst p.2.1)]) with
 | none => rw [q] at w; exact w.elim
 | some o =>
  rw [q] at w
  cases o with
  | ex e ρ' => exact fun cls d G' H' R' s' xa => w cls d G' H' (R'.drop2 R.len (par q)) s' xa
  | ok r ρ' =>
   cases r with
   | ali i => exact w.elim
   | val d => exact fun v G' H' R' s' kr => w v G' H' (R'.drop2 R.len (par q)) s' (RpR.drop2 (fun i z => nomatch z) kr)
   | own d => exact fun v G' H' R' s' kr => w v G' H' (R'.drop2 R.len (par q)) s' (RpR.drop2 (fun i z => nomatch z) kr)
def eCallT2 (mu : List Bool) (fn : Fn) (ga : M P2) : M Rv := do
 let p ← ga
 callT2 mu fn p
section
variable {X : Cx} {W : WX} {x : Str} {k np : Nat} {fn : Fn} {mu : List Bool} {e : Expr} {es : List Expr} {ga : M P2} {p pos : Pos}
theorem de_callT2 (mu : List Bool) (go : Go X W) (F : DF X.prog X.w X.K X.mg X.base x k np fn) (hr : Room k X.A) (hg : Gl X x) (ha : DAT2 X W (e :: es) ga)
  (hdb : (x == ("__debug__" : Str)) = false := by decide) (he : starEach (e :: es) X.env = (false, eval e X.env) :: starEach es X.env := by rfl) (hpl : (backTo pos (starEach es X.env)).any (·.1) = false := by rfl) :
  DE X W (.Call (.Name x p) (e :: es) [] pos) (eCallT2 mu fn ga) := by
 obtain ⟨f, fd, ps, hm, hk, hb, FO⟩ := F.ex
 refine ⟨(pe_callSD (E := WE W) FO hr hg hm hk hb .nil (wish_of go.tk) ha.pa hdb he hpl).weak fun σ H Q ⟨c, G, ρ, R, w⟩ => ?_⟩
 refine tg_step R (Same.refl G) w fun rs ρ1 vs G1 H1 R1 s1 _ k1 w1 => ?_
 rw [List.append_nil]
 exact call_spT2 R1 s1 k1 F.len w1
end
end Dl
namespace Dl
open PySem L2 PySem.Spec PyProof.Rows
open PySem.AutoSeq1 in
theorem list_extend_tup (l : Addr) (items : Array Value) (n : Nat) (b : Addr) (items2 : Array Value) (n2 : Nat) (dv : Option Addr) (sl : Array (Option Value)) (hs0 : ¬(!items.isEmpty && Builtin.List.listTooLong (items.size + items2.size)) = true) (hs1 : items.size ≤ sizeLine) (hs2 : items.size + items2.size ≤ sizeLine + 1) :
  Meets (Builtin.«list.extend» ⟨[.ref l, .ref b], []⟩) (fun _ R s => s.heap.get? l = some { cls := .type "list", dict := none, data := .seq items n, slots := #[] } ∧ s.heap.get? b = some { cls := .type "tuple", dict := dv, data := .seq items2 n2, slots := sl } ∧ R (.ok (.ret Value.none)) { s with heap := s.heap.update l (Obj.mapSeq fun x => x ++ items2), toks := s.toks }) :=
 .of_wp fun prog w A R s h => by
  obtain ⟨hp, g, d, tk, os⟩ := s; obtain ⟨hl, hb, h⟩ := h; have f1 := idx_int; have f2 := AutoSeq1.sub_tuple_tuple; have f3 := AutoSeq1.sub_list_list; have f4 := AutoSeq1.sub_tuple_list; have f5 := AutoSeq1.sub_list_tuple;
  have hz' : (items ++ items2).size ≤ sizeLine + 1 := by rw [Array.size_append]; exact hs2
  wp_walk using (wpAny_updateSeq hl rfl (hz := hs1) (_hz' := hz')), wpAny_loadPart' hl, wpAny_loadPart' hb; exact ⟨_, rfl, h⟩
section
variable {X : Cx}
end
def mExtendT (fo fa : M Rv) : M Rv := do
 let r ← fo
 ckL (settle r)
 let x ← fa
 let d ← peek (settle x)
 fun ρ => match ownLst (settle r) ρ, d with
  | some (i, ds), .tup es => if ds.length + es.length ≤ sizeLine then some (.ok (.val .non) (ρ.set i (.own (.lst (ds ++ es))))) else none
  | _, _ => none
section
variable {X : Cx} {W : WX} {o e : Expr} {fo fa : M Rv} {apos cpos : Pos}
end
end Dl
namespace Dl
open PySem L2 Dn
def intO : D → Option Int
 | .int i => some i
 | _ => none
def intsO : List D → Option (List Int)
 | [] => some []
 | d :: ds => (intO d).bind fun i => (intsO ds).map (i :: ·)
def rowO : D → Option (List Int)
 | .tup ds => intsO ds
 | _ => none
def rowsO : List D → Option K2
 | [] => some []
 | d :: ds => (rowO d).bind fun r => (rowsO ds).map (r :: ·)
def keyO : D → Option K2
 | .tup ds => rowsO ds
 | _ => none
theorem intO_is {d : D} {i : Int} (h : intO d = some i) : d = .int i := by cases d <;> cases h; rfl
theorem intsO_is : ∀ {ds : List D} {l : List Int}, intsO ds = some l → ds = l.map .int
 | [], l, h => by cases h; rfl
 | d :: ds, l, h => by
  obtain ⟨i, h1, h2⟩ := Option.bind_eq_some_iff.mp h
  obtain ⟨r, h3, rfl⟩ := Option.map_eq_some_iff.mp h2
  rw [intO_is h1, intsO_is h3]; rfl
theorem rowO_is {d : D} {r : List Int} (h : rowO d = some r) : d = .tup (r.map .int) := by
 cases d <;> try (cases h; done)
 rw [intsO_is h]
theorem rowsO_is : ∀ {ds : List D} {l : K2}, rowsO ds = some l → ds = l.map fun r => .tup (r.map .int)
 | [], l, h => by cases h; rfl
 | d :: ds, l, h => by
  obtain ⟨i, h1, h2⟩ := Option.bind_eq_some_iff.mp h
  obtain ⟨r, h3, rfl⟩ := Option.map_eq_some_iff.mp h2
  rw [rowO_is h1, rowsO_is h3]; rfl
theorem keyO_is {d : D} {k : K2} (h : keyO d = some k) : d = keyD k := by
 cases d <;> try (cases h; done)
 rw [rowsO_is h]; rfl
theorem intsO_map : ∀ l : List Int, intsO (l.map .int) = some l
 | [] => rfl
 | i :: l => by show (some i).bind _ = _; rw [Option.bind_some, intsO_map l]; rfl
theorem rowsO_map : ∀ l : K2, rowsO (l.map fun r => .tup (r.map .int)) = some l
 | [] => rfl
 | r :: l => by
  show (intsO (r.map .int)).bind _ = _
  rw [intsO_map r, Option.bind_some, rowsO_map l]; rfl
theorem keyO_keyD (k : K2) : keyO (keyD k) = some k := rowsO_map k
def KeyAt (K : PySem.W.Frag) (H : Hp) (k : K2) (b : Addr) : Prop := ∃ bs : List Addr, SqT K H b (bs.map V.ref) ∧ Paired (fun (r : List Int) c => SqT K H c (r.map V.int)) k bs
section
variable {K : PySem.W.Frag} {G H : Hp}
theorem KeyAt.mono {k : K2} {b : Addr} (s : Same G H) (h : KeyAt K G k b) : KeyAt K H k b := by
 obtain ⟨bs, h1, h2⟩ := h
 exact ⟨bs, Same.seqt s h1, Paired.mapP h2 fun _ _ z => Same.seqt s z⟩
def KeysAt (K : PySem.W.Frag) (H : Hp) (kvs : List (K2 × Addr × V)) : Prop := ∀ p ∈ kvs, KeyAt K H p.1 p.2.1
end
section
variable {X : Cx} {pins : List (Addr × Obj)} {σ : L2.St} {H : Hp} {s : Shared}
theorem items_int : ∀ {r : List Int} {us : List Value}, Vals (r.map V.int) us → ItemsAre (PySem.intKind X.prog X.w) r us
 | [], us, h => by cases h; exact .nil
 | i :: r, us, h => by
  cases h with
  | cons h1 h2 =>
   obtain ⟨t, rfl⟩ := h1
   exact .cons (by show Value.isInt i (.int i t) = true; simp [Value.isInt]) (items_int h2)
theorem KeyAt.is (I : Inv X pins σ H s) {k : K2} {b : Addr} (h : KeyAt X.K H k b) : IsTup2 (PySem.intKind X.prog X.w) s.heap k b := by
 obtain ⟨bs, h1, h2⟩ := h
 obtain ⟨its, r, ⟨o, e1, e2, n, e3⟩, hsz⟩ := I.tuple h1
 clear hsz
 refine ⟨o, its.toArray, n, e1, e2, e3, ?_⟩
 show TuplesAre _ _ k its
 clear e1 e2 e3 h1
 induction h2 generalizing its with
 | nil => cases r; exact .nil
 | @cons x c k bs hc _ ih =>
  cases r with
  | cons r1 r2 =>
   cases r1
   obtain ⟨its', r', ⟨o', d1, d2, n', d3⟩, _⟩ := I.tuple hc
   exact .cons ⟨o', its'.toArray, n', d1, d2, d3, items_int r'⟩ (ih _ r2)
theorem KeysAt.is (I : Inv X pins σ H s) {kvs : List (K2 × Addr × V)} (h : KeysAt X.K H kvs) : Keys X.prog X.w s.heap kvs := fun p hp => (h p hp).is I
end
def lkN : List D → List D → K2 → Option D
 | k' :: ks, v :: vs, k => if keyO k' = some k then some v else lkN ks vs k
 | _, _, _ => none
theorem Rh.ndi {K : PySem.W.Frag} {c : Cn} {G H : Hp} {ks vs : List D} {v : V} (h : Rh K c G H (.ndi ks vs) v) (s : Same G H) : ∃ a kvs, v = .ref a ∧ H a = some (NDo a kvs) ∧ ks = kvs.map (fun p => keyD p.1) ∧ RpL K G ks (kvs.map fun p => V.ref p.2.1) ∧ RpL K G vs (kvs.map fun p => p.2.2) := by
 rcases h with ⟨a, xs, h1, h2, h0, h3, h4⟩ | ⟨a, h1, _, _, xs, h2, h0, h3, h4⟩
 · exact ⟨a, xs, h1, s _ _ h2, h0, h3, h4⟩
 · exact ⟨a, xs, h1, h2, h0, h3, h4⟩
theorem Rh.key {K : PySem.W.Frag} {c : Cn} {G H : Hp} {d : D} {k : K2} {v : V} (h : Rh K c G H d v) (e : keyO d = some k) : Rp K G (keyD k) v := by
 have e := keyO_is e
 subst e
 rcases h with h | ⟨a, _, _, _, h⟩
 · exact h
 · exact h.elim
def dInN (d e : D) : Option Rv := match keyO d, e with
 | some k, .ndi ks vs => some (.val (.bl (lkN ks vs k).isSome))
 | _, _ => none
section
variable {X : Cx} {W : WX} {a b e o : Expr} {fa fb fo : M Rv} {pos p : Pos} {np : Nat}
def eInN (fa fb : M Rv) : M Rv := mBin dInN fa fb
def dGetN (d e : D) : Option D := match keyO e, d with
 | some k, .ndi ks vs => lkN ks vs k
 | _, _ => none
def eGetN (fa fb : M Rv) : M Rv := do
 let x ← fa
 let y ← fb
 let d ← peek (settle x)
 let e ← peek y
 let z ← ofO (dGetN d e)
 pure (.val z)
end
end Dl
namespace Dl
open PySem L2 Dn
section
variable {X : Cx} {W : WX} {pos : Pos}
def eDicN : M Rv := pure (.own (.ndi [] []))
end
def replV : List D → List D → K2 → D → List D
 | k' :: ks, v :: vs, k, d => (if keyO k' = some k then d else v) :: replV ks vs k d
 | _, _, _, _ => []
def putVs (ks vs : List D) (k : K2) (d : D) : List D := if (lkN ks vs k).isSome = true then replV ks vs k d else vs ++ [d]
def putKs (ks vs : List D) (k : K2) : List D := if (lkN ks vs k).isSome = true then ks else ks ++ [keyD k]
section
variable {K : PySem.W.Frag} {G : Hp}
end
def ownNdi (r : Rv) (ρ : List S) : Option (Nat × List D × List D) := match r with
 | .ali i => match ρ[i]? with
  | some (.own (.ndi ks vs)) => some (i, ks, vs)
  | _ => none
 | _ => none
def sSetN (fa fo fi : M Rv) : MS := thenS fa fun x => thenS (toV x) fun d => thenS fo fun r => thenS fi fun j => thenS (peek (settle j)) fun e ρ =>
 match ownNdi (settle r) ρ, keyO e with
  | some (i, ks, vs), some k => if vs.length < sizeLine then some (.nx (ρ.set i (.own (.ndi (putKs ks vs k) (putVs ks vs k d))))) else none
  | _, _ => none
section
variable {X : Cx} {W : WX} {a e o : Expr} {fa fb fo : M Rv} {pos p : Pos} {np : Nat}
end
end Dl
namespace Dl
open PySem L2
section
variable {K : PySem.W.Frag} {c : Cn} {G H : Hp} {σ : L2.St} {ρ : List S} {v : V} {ks vs : List D}
end
abbrev repATN (K : PySem.W.Frag) : Cn → Hp → Hp → L2.St → List S → List V → List Rv × List D × List D → Prop := fun c G H σ ρ vs p => ∃ a, Rst K ⟨c.F, []⟩ G H (σ ++ [some (.ref a)]) (ρ ++ [.own (.ndi p.2.1 p.2.2)]) ∧ RpRs K G (σ ++ [some (.ref a)]) vs p.1
structure DATN (X : Cx) (W : WX) (es : List Expr) (f : M (List Rv × List D × List D)) : Prop where
 pa : PA X es (tg X.K W (repATN X.K) f)
def lstOf1N : Rv → Option (List D × List D)
 | .own (.ndi ks vs) => some (ks, vs)
 | _ => none
def aTmpRN (rs : List Rv) (ds : List D × List D) : M (List Rv × List D × List D) := fun ρ => some (.ok (.ali ρ.length :: rs, ds) ρ)
def aTmpN (fa : M Rv) (ga : M (List Rv)) : M (List Rv × List D × List D) := do
 let r ← fa
 let ds ← ofO (lstOf1N r)
 let rs ← ga
 aTmpRN rs ds
def aConsTN (fa : M Rv) (ga : M (List Rv × List D × List D)) : M (List Rv × List D × List D) := do
 let r ← fa
 let p ← ga
 pure (settle r :: p.1, p.2)
section
variable {X : Cx} {W : WX} {e : Expr} {es : List Expr} {fa : M Rv}
end
def callTN (mu : List Bool) (fn : Fn) (p : List Rv × List D × List D) : M Rv := fun ρ => match callM mu fn p.1 (ρ ++ [.own (.ndi p.2.1 p.2.2)]) with
 | some (.ok (.ali _) _) => none
 | some (.ok r ρ') => some (.ok r (ρ'.take ρ.length))
 | some (.ex e ρ') => some (.ex e (ρ'.take ρ.length))
 | none => none
def eCallTN (mu : List Bool) (fn : Fn) (ga : M (List Rv × List D × List D)) : M Rv := do
 let p ← ga
 callTN mu fn p
section
variable {X : Cx} {W : WX} {x : Str} {k np : Nat} {fn : Fn} {mu : List Bool} {e : Expr} {es : List Expr} {ga : M (List Rv × List D × List D)} {p pos : Pos}
end
end Dl
namespace Dn
open PySem L2 Dl
section
variable {X : Cx} {ke ve : Expr} {pos : Pos} {tk tv : TE}
end
end Dn
namespace Dl
open PySem L2 Dn
def eDic1 (fa fb : M Rv) : M Rv := do
 let r ← fa
 let q ← fb
 let e ← peek (settle r)
 let d ← toV q
 match keyO e with
 | some k => pure (.own (.ndi [keyD k] [d]))
 | none => M.fail
section
variable {X : Cx} {W : WX} {ke ve : Expr} {fa fb : M Rv} {pos : Pos}
end
end Dl
namespace Dn
open PySem L2 Dl
section
variable {X : Cx} {pins : List (Addr × Obj)} {σ : St} {H : Hp} {s : Shared} {a b : Addr} {k : K2} {kvs : List (K2 × Addr × V)} {A : Around} {E : Value → Shared → Prop}
end
end Dn
namespace Dl
open PySem L2 Dn
def dNotInN (d e : D) : Option Rv := match keyO d, e with
 | some k, .ndi ks vs => some (.val (.bl (!(lkN ks vs k).isSome)))
 | _, _ => none
section
variable {X : Cx} {W : WX} {a b e o : Expr} {fa fb fo : M Rv} {pos p : Pos} {np : Nat}
def eNotInN (fa fb : M Rv) : M Rv := mBin dNotInN fa fb
end
end Dl
namespace Dn
open PySem L2 Dl PyProof.Rows
section
variable {X : Cx} {kx vx tg iter : Expr} {scope : Scope} {own : List (Str × Nat)} {pos spos : Pos} {wi : TI} {g : TG} {tk tv : TE}
end
end Dn
namespace Dl
open PySem L2 Dn
def kvM (fk fv : M Rv) : M (D × D) := do
 let r ← fk
 let q ← fv
 let e ← peek (settle r)
 let z ← toV q
 pure (e, z)
def dcL (tg : D → List S → Option (List S)) (fk fv : M Rv) (vs : List Nat) : List D → List D × List D → M (List D × List D)
 | [], acc, ρ => some (.ok acc ρ)
 | d :: ds, acc, ρ => match tg d (wipeS ρ vs) with
  | none => none
  | some ρ1 => match kvM fk fv ρ1 with
   | some (.ok a ρ2) => match keyO a.1 with
    | some k => if acc.2.length < sizeLine then dcL tg fk fv vs ds (putKs acc.1 acc.2 k, putVs acc.1 acc.2 k a.2) (backS ρ ρ2 vs) else none
    | none => none
   | _ => none
def eDcN (it : M (List D)) (tg : D → List S → Option (List S)) (fk fv : M Rv) (vs : List Nat) : M Rv := do
 let ds ← it
 let acc ← fun ρ => if noOwn ρ vs = true then dcL tg fk fv vs ds ([], []) ρ else none
 pure (.own (.ndi acc.1 acc.2))
section
variable {X : Cx} {W : WX} {kx vx tg iter : Expr} {scope : Scope} {own : List (Str × Nat)} {pos : Pos} {it : M (List D)} {g : D → List S → Option (List S)} {fk fv : M Rv} {ts : List Nat}
end
end Dl
namespace Dl
open PySem L2
open PyProof.Rows hiding St
structure DFD (P : Program) (w : World) (K : PySem.W.Frag) (mg : Str → Option Value) (base : Heap) (x : Str) (k np : Nat) (ns : List Int) (fn : Fn) : Prop where
 len : ∀ ss o, fn ss = some o → ss.length = np
 ex : ∃ (f : Addr) (fd : FuncData) (ps : List Str) (ds : List Value), mg x = some (.ref f) ∧ PySem.W.keepIn K (.ref f) = true ∧ Vals (ns.map fun n => V.int n) ds ∧ Binds K fd ps ds ∧ FnOk P w K mg base (L2N.CX P w) k f fd ps (spD K np fn)
theorem DFD.up {P : Program} {w : World} {K : PySem.W.Frag} {mg : Str → Option Value} {base : Heap} {x : Str} {j k np : Nat} {ns : List Int} {fn : Fn} (F : DFD P w K mg base x j np ns fn) (h : j ≤ k) : DFD P w K mg base x k np ns fn :=
 let ⟨f, fd, ps, ds, h1, h2, h3, h4, h5⟩ := F.ex; ⟨F.len, f, fd, ps, ds, h1, h2, h3, h4, h5.mono h⟩
def eCallD (mu : List Bool) (fn : Fn) (ns : List Int) (ga : M (List Rv)) : M Rv := do
 let rs ← ga
 callM mu fn (rs ++ ns.map fun n => Rv.val (.int n))
section
variable {X : Cx} {W : WX} {x : Str} {k np : Nat} {ns : List Int} {fn : Fn} {mu : List Bool} {e : Expr} {es : List Expr} {ga : M (List Rv)} {p pos : Pos}
end
end Dl
namespace Dl
open PySem L2
section
variable {X : Cx} {W : WX} {a b e o : Expr} {fa fb : M Rv} {p p2 pos : Pos} {k np : Nat} {fn : Fn}
def eOwnIn (n : Str) (mu : List Bool) (fn : Fn) (fa fb : M Rv) : M Rv := do
 let r ← fa
 let q ← fb
 ckC n (settle q)
 let z ← callM mu fn [settle q, settle r]
 match z with
 | .val (.bl k) => pure (.val (.bl k))
 | _ => M.fail
end
end Dl
namespace Dl
open PySem L2
open PyProof.Rows hiding St
structure DProp (P : Program) (w : World) (K : PySem.W.Frag) (mg : Str → Option Value) (base : Heap) (n m : Str) (k np : Nat) (fn : Fn) : Prop where
 len : ∀ ss o, fn ss = some o → ss.length = np
 cl : Cls K (He.ga K n)
 ex : ∃ (p g : Addr) (fd : FuncData) (ps : List Str), L2.PropOf K (He.ga K n) m p g ∧ Binds K fd ps [] ∧ FnOk P w K mg base (L2N.CX P w) k g fd ps (spD K np fn)
theorem DProp.up {P : Program} {w : World} {K : PySem.W.Frag} {mg : Str → Option Value} {base : Heap} {n m : Str} {j k np : Nat} {fn : Fn} (F : DProp P w K mg base n m j np fn) (h : j ≤ k) : DProp P w K mg base n m k np fn :=
 let ⟨p, g, fd, ps, h1, h2, h3⟩ := F.ex; ⟨F.len, F.cl, p, g, fd, ps, h1, h2, h3.mono h⟩
theorem DProp.imp {P : Program} {w : World} {K : PySem.W.Frag} {mg : Str → Option Value} {base : Heap} {n m : Str} {k np : Nat} {fn fn' : Fn} (F : DProp P w K mg base n m k np fn) (h : Fn.le fn' fn) : DProp P w K mg base n m k np fn' :=
 let ⟨p, g, fd, ps, h1, h2, h3⟩ := F.ex; ⟨fun ss o e => F.len ss o (h _ _ e), F.cl, p, g, fd, ps, h1, h2, h3.imp fun _ _ _ _ q => spD_imp h q⟩
def nxO : Of → Option Of
 | .ret r s => some (.ret r s)
 | .ex _ _ => none
def nx (fn : Fn) : Fn := fun ss => (fn ss).bind nxO
def eProp (n : Str) (mu : List Bool) (fn : Fn) (fo : M Rv) : M Rv := do
 let r ← fo
 ckC n (settle r)
 callM mu (nx fn) [settle r]
section
variable {X : Cx} {W : WX} {o : Expr} {fo : M Rv} {pos : Pos} {k np : Nat} {fn : Fn}
end
end Dl
namespace Dl
open PySem L2
open PyProof.Rows hiding St
section
variable {X : Cx} {CX : CXT} {k n : Nat} {f C : Addr} {fd : FuncData} {ps ks : List Str} {sp : Sp} {E : St → XK} {x : Str} {p pos : Pos} {e : Expr} {es : List Expr} {kws : List Keyword} {t tk : TA} {g : List Value → List Value → List Value} {gV : List V → List V → List V}
end
abbrev Pl : Type := List (Nat ⊕ Int)
def fillV (pl : Pl) (zs : List V) : List V := pl.map fun q => match q with
 | .inl i => zs.getD i .non
 | .inr n => .int n
def fillR (pl : Pl) (zs : List Rv) : List Rv := pl.map fun q => match q with
 | .inl i => zs.getD i (.val .non)
 | .inr n => .val (.int n)
structure DMK (P : Program) (w : World) (K : PySem.W.Frag) (mg : Str → Option Value) (base : Heap) (x : Str) (k np n : Nat) (ks : List Str) (pl : Pl) (fn : Fn) : Prop where
 len : ∀ ss o, fn ss = some o → ss.length = np
 ex : ∃ (f : Addr) (fd : FuncData) (ps : List Str) (g : List Value → List Value → List Value) (gV : List V → List V → List V), mg x = some (.ref (He.ga K x)) ∧ Mk K (He.ga K x) f ∧ KBn K fd ps (n + 1) ks g gV ∧ (∀ vs zs : List V, vs.length = n + 1 → zs.length = ks.length → gV vs zs = vs ++ fillV pl zs) ∧ FnOk P w K mg base (L2N.CX P w) k f fd ps (spD K np fn)
theorem DMK.up {P : Program} {w : World} {K : PySem.W.Frag} {mg : Str → Option Value} {base : Heap} {x : Str} {j k np n : Nat} {ks : List Str} {pl : Pl} {fn : Fn} (F : DMK P w K mg base x j np n ks pl fn) (h : j ≤ k) : DMK P w K mg base x k np n ks pl fn :=
 let ⟨f, fd, ps, g, gV, h1, h2, h3, h4, h5⟩ := F.ex; ⟨F.len, f, fd, ps, g, gV, h1, h2, h3, h4, h5.mono h⟩
def eMakeK (x : Str) (n m : Nat) (pl : Pl) (mu : List Bool) (fn : Fn) (ga gk : M (List Rv)) : M Rv := do
 let rs ← ga
 let zs ← gk
 if rs.length = n ∧ zs.length = m then makeM x mu fn (rs ++ fillR pl zs) else M.fail
section
variable {X : Cx} {W : WX} {x : Str} {k np n : Nat} {ks : List Str} {pl : Pl} {fn : Fn} {mu : List Bool} {e : Expr} {es : List Expr} {kws : List Keyword} {ga gk : M (List Rv)} {p pos : Pos}
end
end Dl
namespace Dl
open PySem L2
def intOf : Option D → Option Int
 | some (.int k) => some k
 | _ => none
def sAugF (cs : Flds) (f : Str) (h : Int → Int) (fo : M Rv) : MS := thenS fo fun r ρ => match ownObj (settle r) ρ with
  | some (i, n, ns, ds) => if n ∈ cs ∧ ns.length < 1000 then (intOf (lkF f ns ds)).map fun k => .nx (ρ.set i (.own (.obj n (putF2 f (.int (h k)) ns ds).1 (putF2 f (.int (h k)) ns ds).2))) else none
  | none => none
section
variable {X : Cx} {W : WX} {np : Nat} {o : Expr} {fo : M Rv} {pos pos' tpos : Pos} {cs : Flds} {f : Str} {op : Operator} {jn : Bool}
end
end Dl
namespace Dl
open PySem L2
structure OwnC (K : PySem.W.Frag) (n : Str) : Prop where
 cl : Cls K (He.ga K n)
 ha : PySem.W.findIn K (.ref (He.ga K n)) "__class__" = some (some (.builtin "object.__class__"))
 hn : PySem.W.specialIn K (.builtin "object.__class__") "__get__" = some (some (.builtin "getset_descriptor.__get__"))
 htk : PySem.W.takesIn K (.builtin "object.__class__") = some true
 hm : PySem.W.mroIn K (He.ga K n) (.type "object") = some true
 sf : PySem.W.selfFirst K (He.ga K n) = true
 nolen : PySem.W.findIn K (.ref (He.ga K n)) "__len__" = some none
 nohint : PySem.W.findIn K (.ref (He.ga K n)) "__length_hint__" = some none
section
variable {X : Cx} {W : WX} {pos : Pos} {cs : List Str}
theorem de_cls {x : Str} (hm : X.mg x = some (.ref (He.ga X.K x))) (hg : Gl X x := by exact rfl) (hd : (x == ("__debug__" : Str)) = false := by decide) : DE X W (.Name x pos) (eC (.cls x)) :=
 de_cv (v := .ref (He.ga X.K x)) (pe_glob hg hm rfl hd) fun _ => rfl
end
end Dl
namespace Dl
open PySem L2
open PyProof.Rows hiding St
structure RaC (K : PySem.W.Frag) (n : Str) : Prop where
 q : PySem.W.excIn K (He.ga K n) He.veBase "ValueError.__new__" = true
 kp : PySem.W.keepIn K (.ref (He.ga K n)) = true
 sub : PySem.W.subIn K (.ref (He.ga K n)) (.type "BaseException") = some true
 ty : PySem.W.typeIn K (.ref (He.ga K n)) = some (.type "type")
def sRaise (C : Str) : MS := fun ρ => some (.ex ⟨C, [], []⟩ ρ)
section
variable {X : Cx} {W : WX} {np : Nat} {pos p p2 pos' : Pos}
end
structure IsT (K : PySem.W.Frag) (C : Str) (tc : List (Str × Bool)) (tt : List (String × Bool)) : Prop where
 ex : L2.ExcC K (He.ga K C)
 own : ∀ n b, tc.lookup n = some b → PySem.W.kitOne K (.ref (He.ga K C)) (.ref (He.ga K n)) = some b
 blt : ∀ n b, tt.lookup n = some b → PySem.W.kitOne K (.ref (He.ga K C)) (.type n) = some b
structure HotX (X : Cx) (C : Str) (a : Addr) : Prop where
 ex : ∃ oe, (a, oe) ∈ X.pn ∧ L2N.Zn (.ref (He.ga X.K C)) none oe ∧ ∃ vs, oe.data = .fields vs
section
variable {X : Cx} {W : WX} {pos p : Pos} {C : Str} {a : Addr} {tc : List (Str × Bool)} {tt : List (String × Bool)} {x y : Expr} {ga : M (List Rv)}
end
structure FnP (P : Program) (w : World) (K : PySem.W.Frag) (mg : Str → Option Value) (base : Heap) (CX : CXT) (k : Nat) (f : Addr) (ps : List Str) (fd : FuncData) (sp : Addr × Obj → Sp) : Prop where
 len : ∀ p vs H Q E, sp p vs H Q E → vs.length = ps.length
 run : ∀ (A : Around) (outer : List Env) (s : Shared) (H : Hp) (args : Args) (us : List Value) (vs : List V) (Q : VK) (E : XK) (p : Addr × Obj), L2H.RoomH k A → L2H.Hot1 A p → L2H.PinOk outer H s p → Env0 P w K mg base A outer s H → BindsTo s fd args (ps.zip us) → Vals vs us → sp p vs H Q E →
  codeAny (model P w) A (.call (.ref f) args) (CR CX outer P w H s Q E) s
theorem fn_ofP {CX : CXT} {P : Program} {w : World} {K : PySem.W.Frag} {mg : Str → Option Value} {base : Heap} {k : Nat} {f : Addr} {name qual : Str} {params : Arguments} {body : List Stmt} {scope : Scope} {dV kV doc pm cdv ct oc : Value} {an od : Option Addr}
  {osl : Array (Option Value)} {N ps : List Str} {sp : Addr × Obj → Sp} (lk : K.lookup f = some ⟨oc, od, .func (PySem.W.fnOf name qual params body scope dV kV doc pm an cdv ct), osl⟩) (hcd : PySem.W.codeIn K cdv qual = true) (S : FnScope N ps scope)
  (len : ∀ p vs H Q E, sp p vs H Q E → vs.length = ps.length)
  (hbody : ∀ (A : Around) (outer : List Env) (s : Shared) (H : Hp) (vs : List V) (Q : VK) (E : XK) (p : Addr × Obj), L2H.Hot1 A p → L2H.RoomH k (A.deeper (envOfC qual scope s.heap.objs.size f cdv)) → sp p vs H Q E →
   ∃ t, PSs (L2H.cxH CX P w K mg base N qual scope f cdv A outer s H E p) body t ∧ t { nx := fun _ H' => Q .non H', rt := Q } (L2.start N vs) H) :
  FnP P w K mg base CX (k + 1) f ps (PySem.W.fnOf name qual params body scope dV kV doc pm an cdv ct) sp := by
 refine ⟨len, fun A outer s H args us vs Q E p hr hot hpin e0 hb r hsp => ?_⟩
 have hl := len _ _ _ _ _ hsp
 have KX : K.In s.heap := e0.mod.kin.keeps fun b o e => (e0.bs b o e).1
 have lim : s.heap.NoLimit := e0.mod.nolimit.keeps fun b o e => (e0.bs b o e).1
 have hkind : ∀ y ∈ ps.zip us, scope.names.lookup y.1 = some .local ∨ (scope.names.lookup y.1 = some .cell ∧ ((cellsFrom (s.heap.objs.size + 1) scope.names []).lookup y.1).isSome = true) := fun ⟨n, v⟩ hy => by
  rcases S.par n (List.of_mem_zip hy).1 with q | q
  · exact .inl q
  · exact .inr ⟨q, PySem.W.cellsFrom_some _ _ _ (.inl q)⟩
 refine codeAny_call_function hr.depth (KX _ _ lk) rfl S.co S.gen rfl (PySem.W.codeRec_of KX hcd) (hb _ _ _ _ ?_)
 refine wpAny_newFunctionEnv_cells S.kind hkind fun env he s1 x => ?_
 subst he
 refine ⟨lim.keeps x.toInCall.keep, codeAny_func ?_⟩
 obtain ⟨t, ht, hq⟩ := hbody A outer s H vs Q E p hot (hr.deeper _) hsp
 have I : Inv (L2H.cxH CX P w K mg base N qual scope f cdv A outer s H E p) [] (L2.start N vs) H s1 := L2H.inv_startH S hpin e0 hl r x
 refine wpAny_mono (ht.run [] s1 (L2.start N vs) H _ I hq) (fun fl s' hs => ?_) fun e s' hs => hs
 have fin : ∀ {σ' : L2.St} {H' : Hp} {v : V} {u : Value}, Inv (L2H.cxH CX P w K mg base N qual scope f cdv A outer s H E p) [] σ' H' s' → RelV v u → Q v H' → CE outer P w H s Q u s' :=
  fun {σ' H' v u} J rv q => ⟨v, H', J.os, J.bare, J.base, J.hok, rv, q⟩
 cases fl with
 | ret u =>
  obtain ⟨v, σ', H', J, rv, q⟩ := hs
  exact fin J rv q
 | next =>
  obtain ⟨σ', H', J, q⟩ := hs
  exact fin (v := V.non) (u := Value.none) J rfl q
 | brk =>
  obtain ⟨_, _, _, q⟩ := hs
  exact False.elim q
 | cont =>
  obtain ⟨_, _, _, q⟩ := hs
  exact False.elim q
theorem sp_start {K : PySem.W.Frag} {N ps : List Str} {fb : MS} {vs : List V} {H : Hp} {Q : VK} {E : XK} (h : spD K ps.length (mkFn ps.length N.length fb) vs H Q E) : tS K (WB E) ps.length fb { nx := fun _ H' => Q .non H', rt := Q } (L2.start N vs) H := by
 obtain ⟨c, G, ss, o, hl, hs, R, e, po⟩ := h
 unfold mkFn at e
 have hsl : ss.length = ps.length := by rw [R.len, List.length_map, hl]
 rw [if_pos hsl] at e
 have R1 := R.ext (N.length - ps.length)
 have est : L2.start N vs = vs.map some ++ List.replicate (N.length - ps.length) none := by unfold L2.start; rw [hl]
 rw [est]
 cases q : fb (ss ++ List.replicate (N.length - ps.length) .no) with
 | none => rw [q] at e; cases e
 | some os =>
  rw [q] at e
  refine ⟨c, G, _, os, by rw [hs, List.length_map, hl], R1, q, ?_⟩
  cases os with
  | nx ρ' =>
   cases e
   exact fun σ' G' H' R' s' => po .non G' H' (R.posted hs s' R') s' rfl
  | bk ρ' => cases e
  | ct ρ' => cases e
  | rt r ρ' =>
   cases r with
   | ali i => cases e
   | val d => cases e; exact fun v σ' G' H' R' s' k => po v G' H' (R.posted hs s' R') s' (RpR.posted R hs R' (fun i z => nomatch z) k)
   | own d => cases e; exact fun v σ' G' H' R' s' k => po v G' H' (R.posted hs s' R') s' (RpR.posted R hs R' (fun i z => nomatch z) k)
  | ex x ρ' => cases e; exact fun cls d σ' G' H' R' s' xa => po cls d G' H' (R.posted hs s' R') s' xa
structure DFP (P : Program) (w : World) (K : PySem.W.Frag) (mg : Str → Option Value) (base : Heap) (x : Str) (k np : Nat) (C : Str) (fn : Addr → Fn) : Prop where
 len : ∀ a ss o, fn a ss = some o → ss.length = np
 ex : ∃ (f : Addr) (fd : FuncData) (ps : List Str), mg x = some (.ref f) ∧ PySem.W.keepIn K (.ref f) = true ∧ Binds K fd ps [] ∧ FnP P w K mg base (L2N.CX P w) k f ps fd (fun p vs H Q E => L2N.Zn (.ref (He.ga K C)) none p.2 ∧ spD K np (fn p.1) vs H Q E)
theorem DFP.up {P : Program} {w : World} {K : PySem.W.Frag} {mg : Str → Option Value} {base : Heap} {x C : Str} {j k np : Nat} {fn : Addr → Fn} (F : DFP P w K mg base x j np C fn) (h : j ≤ k) : DFP P w K mg base x k np C fn :=
 let ⟨f, fd, ps, h1, h2, h3, h4⟩ := F.ex; ⟨F.len, f, fd, ps, h1, h2, h3, h4.len, fun A outer s H args us vs Q E p hr => h4.run A outer s H args us vs Q E p (hr.mono h)⟩
section
variable {X : Cx} {W : WX} {x C : Str} {k np : Nat} {fn : Addr → Fn} {mu : List Bool} {e : Expr} {es : List Expr} {ga : M (List Rv)} {p pos : Pos} {a : Addr}
structure HotZ (X : Cx) (C : Str) (a : Addr) : Prop where
 ex : ∃ oe, (a, oe) ∈ X.pn ∧ L2N.Zn (.ref (He.ga X.K C)) none oe ∧ L2H.Hot1 X.A (a, oe)
end
end Dl
namespace Dl
open PySem L2
open PyProof.Rows hiding St
def sTry (hit : Str → Option Bool) (body : MS) (su : Xn → List S → Option Os) : MS := fun ρ => match body ρ with
 | some (.ex e ρ1) => (match hit e.c with
  | some true => su e ρ1
  | some false => some (.ex e ρ1)
  | none => none)
 | some o => some o
 | none => none
theorem roomH_suite {X : Cx} {k : Nat} {a : Addr} {pn : List (Addr × Obj)} (hr : Room k X.A) : L2H.RoomH k (X.suite a pn).A := ⟨hr.dp, hr.un⟩
section
variable {X : Cx} {W : WX} {np i : Nat} {x n : Str} {pos pos' p : Pos} {body suite : List Stmt} {b₀ : Stmt} {fb : MS} {hit : Str → Option Bool} {su : Xn → List S → Option Os} {fsu : Addr → Str → MS}
end
end Dl
namespace Dl
open PySem L2
theorem mem_lk : ∀ {l : List (String × Bool)} {n : String} {b : Bool}, l.lookup n = some b → (n, b) ∈ l
 | [], _, _, h => by cases h
 | (m, c) :: l, n, b, h => by
  rw [List.lookup_cons] at h
  cases q : (n == m) with
  | true =>
   rw [q] at h
   have e : c = b := Option.some.inj h
   rw [e, ← eq_of_beq q]
   exact List.mem_cons_self
  | false =>
   rw [q] at h
   exact List.mem_cons_of_mem _ (mem_lk h)
theorem isT_ok {K : PySem.W.Frag} {C : Str} {tc : List (Str × Bool)} {tt : List (String × Bool)} (h : xtB K C tc tt = true) : IsT K C tc tt :=
 ⟨xt_exc h, fun n b e => (xt_rest h).2.1 (n, b) (PySem.mem_of_lookup e), fun n b e => (xt_rest h).2.2 (n, b) (mem_lk e)⟩
end Dl
namespace Dl
open PySem L2 PySem.W PySem.Calls
open PyProof.Rows hiding St
abbrev vw (x : Addr) : Obj := kxs_mw "ValueError.__init__" x
theorem call_vw {prog : Program} {w : World} {A : Around} {E : Value → Shared → Prop} {h : Heap} {g : Array GenState} {d : Drawn} {t : Nat} {os : OsState} {nm q : Str} {C N : Addr} {bs bm : List Value} {hdct : Bool} {sn : List Str} {sub : List Value} {ab : Bool} {col : Option Bool} {dd : Option Addr} {k0 k1 k2 k3 k5 : Option Value}
  {u e t0 : Addr} {rest : List Value} {Q : Value → Shared → Prop}
  (hC : h.get? C = some (excClassObj nm q C N bs bm hdct sn sub ab col dd k0 k1 k2 k3 k5 "ValueError.__new__")) (he : h.get? e = some (HandSPX.excO C t0)) (hu : h.get? u = some (vw e)) (hrest : rest.length ≤ sizeLine)
  (hq : ∀ h' t1, (∀ b o, b ≠ e → h.get? b = some o → h'.get? b = some o) → h'.get? e = some (HandSPX.excO C t1) → Q .none ⟨h', g, d, t, os⟩) :
  wpAny (model prog w) A (call (.ref u) rest) Q E ⟨h, g, d, t, os⟩ := by
 refine wpAny_call (codeAny_of_tree ?_)
 show wpAny _ A.in1 (callAny (.ref u) ⟨rest, []⟩) _ _ _
 simp only [callAny]
 refine wpAny_bind (wpAny_load hu ?_)
 simp only [vw, kxs_mw, show (Value.type "method-wrapper" == Value.type "method" || Value.type "method-wrapper" == Value.type "builtin_function_or_method" || Value.type "method-wrapper" == Value.type "method-wrapper") = true by decide, if_true]
 refine W.KFB.if_so (by decide) ?_
 refine wpAny_bind (ESX.check_bound F.excBase_ValueError hC he rfl ?_)
 refine wpAny_bind (wpAny_pure (wpAny_pure ?_))
 refine ⟨Code.quiet_builtin _ (by decide +kernel), codeAny_builtin F.excBase_ValueError.initEntry ?_⟩
 rw [Around.under_plainId F.excBase_ValueError.init.plain _]
 wp_walk
 refine hq _ h.objs.size (fun b o hb ho => ?_) ?_
 · rw [Heap.get?_update_other _ _ (Ne.symm hb)]
   exact Heap.get?_push_of_some _ ho
 · rw [Heap.get?_update_self _ (Heap.get?_push_of_some _ he) rfl]
   rfl
structure XiF (K : PySem.W.Frag) (C : Addr) (fI : Addr) (file : Str) (name qual : Str) (params : Arguments) (body : List Stmt) (scope : Scope) (fld : Str) (fd : FuncData) : Prop where
 T : L2.OexC K C
 ex : ∃ (oc : Value) (od : Option Addr) (dV kV doc pm ct : Value) (an : Option Addr) (osl : Array (Option Value)) (cc cda : Addr) (ccl cl : Value) (cdd cld : Option Addr) (ccs csl : Array (Option Value)) (vs : Array Value) (tf : Tok),
  fd = ksFn name qual params body scope dV kV doc pm an (.ref cda) ct cc ∧ K.lookup fI = some ⟨oc, od, .func fd, osl⟩ ∧ PySem.W.codeIn K (.ref cda) qual = true ∧
  K.lookup cda = some ⟨ccl, cdd, .fields vs, ccs⟩ ∧ vs[2]? = some (.str file tf) ∧ K.lookup cc = some ⟨cl, cld, .cell (some (.ref C)), csl⟩
 sub : PySem.W.mroIn K C (.ref C) = some true
 opq : PySem.W.nsIn K cStatics "thirdparty.any" = some none
 sup : ks_superIn K C C "__init__" = some (some (.builtin "ValueError.__init__"))
 ve : PySem.W.subIn K (.ref C) (.type "ValueError") = some true
 nof : PySem.W.findIn K (.ref C) fld = some none
def spXi (C : Addr) (fld : Str) : Sp := fun vs H Q _ => ∃ (a : Addr) (v : V), vs = [.ref a, v] ∧ H a = some (L2.exo a C none) ∧ ∀ dx, H dx = none → dx ≠ a → Q .non (upd (upd H dx (L2.exd dx [(fld, v)])) a (L2.exo a C (some dx)))
theorem bindL_two {p1 p2 : Str} {u1 u2 : Value} (x : Str) : (([p1, p2].zip [u1, u2]).reverse.lookup x) = if x = p2 then some u2 else if x = p1 then some u1 else none := by
 show ([(p2, u2), (p1, u1)] : List (Str × Value)).lookup x = _
 by_cases h2 : x = p2
 · subst h2; simp [List.lookup]
 · have e2 : (x == p2) = false := by simpa using h2
   by_cases h1 : x = p1
   · subst h1; simp [List.lookup, e2, h2]
   · have e1 : (x == p1) = false := by simpa using h1
     simp [List.lookup, e1, e2, h1, h2]
section
variable {P : Program} {w : World} {K : PySem.W.Frag} {mg : Str → Option Value} {base : Heap} {C fI : Addr} {file name qual fld self par : Str} {params : Arguments} {body : List Stmt} {scope : Scope} {fd : FuncData} {ar : Arg}
theorem xi_fn {CX : CXT} {k : Nat} {msg : Str} {pl : Env → Sem Bool} {p0 p1 p2 p3 p4 p5 p6 p7 p8 p5' : Pos} {j : Nat} (F : XiF K C fI file name qual params body scope fld fd)
  (hbody : body = [.Expr (.Call (.Attribute (.Call (.Name "super" p0) [] [] p1) "__init__" p2) [.Constant (.str msg) j p3] [] p4) p5, .Assign [.Attribute (.Name self p6) fld p7] (.Name par p8) p5'])
  (heval : ∀ env : Env, eval (.Call (.Attribute (.Call (.Name "super" p0) [] [] p1) "__init__" p2) [.Constant (.str msg) j p3] [] p4) env = (do
   let ov ← attributeBase (.Call (.Name "super" p0) [] [] p1) "__init__" env (eval (.Call (.Name "super" p0) [] [] p1) env)
   standAt p2.atName
   let (f, first) ← holding [ov] (getMethod ov "__init__" (pl env))
   callWith p4 f first (backTo p4 (starEach [.Constant (.str msg) j p3] env)) []))
  (hsw1 : ∀ env : Env, swapsWith (.Call (.Attribute (.Call (.Name "super" p0) [] [] p1) "__init__" p2) [.Constant (.str msg) j p3] [] p4) none p5.line env = pure false) (hsw2 : ∀ env : Env, swapsWith (.Name par p8) (some (.Attribute (.Name self p6) fld p7)) p5'.line env = pure false)
  (hP : ((P.main.file : Str) == file) = true) (hPs : (P.main.scope.names.lookup ("super" : Str)).isSome = false) (hms : mg "super" = none)
  (har : (params.posonlyargs ++ params.args).head? = some ar) (hara : ar.arg = self) (hsp : self ≠ par)
  (hk : scope.kind = .function := by rfl) (hco : scope.isCoroutine = false := by rfl) (hgen : scope.isGenerator = false := by rfl) (hcell : ∀ x ∈ scope.names, x.2 ≠ .cell := by decide)
  (hks : scope.names.lookup ("super" : Str) = some .globalImplicit := by rfl) (hkc : scope.names.lookup ("__class__" : Str) = some .free := by rfl) (hkself : scope.names.lookup self = some .local := by rfl) (hkpar : scope.names.lookup par = some .local := by rfl)
  (hds : (self == ("__debug__" : Str)) = false := by decide) (hdp : (par == ("__debug__" : Str)) = false := by decide) :
  FnOk P w K mg base CX k fI fd [self, par] (spXi C fld) := by
 refine ⟨fun vs H Q E ⟨a, v, e, _⟩ => by rw [e]; rfl, fun A outer s H args us vs Q E hr e0 hb r hsp' => ?_⟩
 obtain ⟨a, v, rfl, ea, hq⟩ := hsp'
 obtain ⟨oc, od, dV, kV, doc, pm, ct, an, osl, cc, cda, ccl, cl, cdd, cld, ccs, csl, vs, tf, rfl, lk, hcd, lcda, hvs, lcc⟩ := F.ex
 cases r with
 | @cons _ u1 _ ur r1 rr =>
 cases rr with
 | @cons _ u2 _ ur2 r2 rr =>
 cases rr
 obtain rfl : u1 = Value.ref a := r1
 subst hbody
 have KX : K.In s.heap := e0.mod.kin.keeps fun b o e => (e0.bs b o e).1
 have lim : s.heap.NoLimit := e0.mod.nolimit.keeps fun b o e => (e0.bs b o e).1
 obtain ⟨t1, ho⟩ := L2.exo_at e0.hok ea
 obtain ⟨nm, q, N, bs, bm, sn, sub, ab, col, dd, k0, k1, k2, k3, k5, hC, hbm⟩ := F.T.cls
 have hcl : PySem.W.clsIn K C = some { name := nm, bases := bs, mro := .ref C :: bm, ns := N, qualname := q, hasDict := true, slotNames := sn, subclasses := sub, abstract := ab, collection := col, hasDel := false } := by unfold PySem.W.clsIn; rw [hC] <;> rfl
 have hlen : (2 : Nat) ≤ 2 := Nat.le_refl _
 have hd : A.depth < recursionLimit := by have := hr.dp; omega
 have htyp : PySem.W.typeIn K (.ref C) = some (.type "type") := F.T.tyC
 have nac : ∀ {b u : _}, s.heap.get? b = some u → H b = none → b ≠ a := fun {b u} _ n z => by rw [z, ea] at n; cases n
 refine ks_codeAny_call_defAt (fd := ksFn name qual params _ scope dV kV doc pm an (.ref cda) ct cc) (binds := [self, par].zip [Value.ref a, u2]) hd (KX _ _ lk) rfl lim (PySem.W.codeRec_of KX hcd) rfl hb hcell (fun x hx => ?_) (fun h1 hns hk1 => ?_) hco hgen hk
 · have hx : x ∈ [(self, Value.ref a), (par, u2)] := hx
   rcases List.mem_cons.mp hx with rfl | hx
   · exact hkself
   · rw [List.mem_singleton.mp hx]; exact hkpar
 · have KB : ∀ {h' : Heap}, (∀ b o, b ≠ a → s.heap.get? b = some o → h'.get? b = some o) → ∀ b o, base.get? b = some o → h'.get? b = some o := fun {h'} k b o e => k b o (nac (e0.bs b o e).1 (e0.bs b o e).2) (e0.bs b o e).1
   have K1 : K.In h1 := e0.mod.kin.keeps (KB fun b o _ e => hk1 b o e)
   obtain ⟨mb, hmb, hboot⟩ := e0.mod.blt
   have a1 := hk1 _ _ ho
   have C1 := K1 _ _ hC
   have aC : a ≠ C := fun z => by
    rw [z, C1] at a1
    cases a1
   show _root_.PySem.wpAt (model P w) _ (.func _ (ksEnv qual scope s.heap.objs.size fI (.ref cda) cc)) (execs _ (ksEnv qual scope s.heap.objs.size fI (.ref cda) cc)) _ _ _
   refine ks_wpAt_execs_cons (ks_wpAt_Expr_any (ks_wpAt_MethodCall ?_ (heval _)) (by show (scope.kind == .module && _) = false; rw [hk]; rfl) (hsw1 _))
   refine ks_wpAt_super_base (env := ksEnv qual scope s.heap.objs.size fI (.ref cda) cc) hks hkc (by decide) rfl (K1 _ _ lk) rfl har rfl (K1 _ _ lcda) rfl hvs hP hPs ?_
   refine ks_loadName_global hk hks (loadGlobal_builtin (env := ksEnv qual scope s.heap.objs.size fI (.ref cda) cc) (e0.mod.glob.keeps (KB fun b o _ e => hk1 b o e)) hms (hmb.keeps (KB fun b o _ e => hk1 b o e)) ((hboot _ (by decide)).trans (show bootBuiltins "super" = some (.type "super") by first | rfl | kernel_rfl | decide +kernel)) ⟨rfl, ?_⟩)
   refine wpAny_loadName_free hk hkc rfl ⟨_, K1 _ _ lcc, rfl⟩ ?_
   rw [hara]
   have l1 : ([self, par].zip [Value.ref a, u2]).reverse.lookup self = some (.ref a) := by rw [bindL_two, if_neg hsp, if_pos rfl]
   have l2 : ([self, par].zip [Value.ref a, u2]).reverse.lookup par = some u2 := by rw [bindL_two, if_pos rfl]
   refine wpAny_loadName_local hk hkself hns l1 ?_
   refine ks_wpAny_isType_cls C1 rfl ⟨rfl, ?_⟩
   refine ks_wpAny_call_super C1 rfl a1 rfl (fun c z => by cases z) (looks_mroIn K1 F.sub) (fun h2 e2 k2 => ?_)
   have K2 : K.In h2 := K1.keeps k2
   have a2 := k2 _ _ a1
   have I2 : PySem.W.InstAt h2 a { cls := .ref C, dict := none, data := .fields #[.ref t1, .none, .none, .none, .bool false, .none] } C none := ⟨a2, rfl, rfl, trivial⟩
   have hsup := F.sup
   unfold ks_superIn at hsup
   rw [hcl] at hsup
   refine kxs_getMethod kxs_ValueError e2 (looks_opaque K2 F.opq) (l₀ := .ref C :: bm) ?_ rfl K2 hsup (I2.type.andThen (looks_subIn K2 F.ve)) aC (by decide) ?_
   · exact fun A Q E s k q => wpAny_bind ((looks_clsIn K2 hcl) A _ E s k (wpAny_pure q))
   · refine kxs_callWith (i := "ValueError.__init__") (x := a) rfl (evalArgs_plain ?_)
     refine spliced_cons (Constant_str (k := j) (pos := p3) (spliced_nil ⟨Heap.get?_push_at rfl rfl, ?_⟩))
     have k3 : ∀ b o, h2.get? b = some o → (h2.push (kxs_mw "ValueError.__init__" a)).get? b = some o := fun b o e => Heap.get?_push_of_some _ e
     refine call_vw (K2.keeps k3 _ _ hC) (k3 _ _ a2) (Heap.get?_push_at rfl rfl) (by show 1 ≤ sizeLine; rw [sizeLine_eq]; decide) fun h4 t4 k4 a4 => ?_
     have kept : ∀ b o, b ≠ a → s.heap.get? b = some o → h4.get? b = some o := fun b o hb e => k4 b o hb (k3 b o (k2 b o (hk1 b o e)))
     have K4 : K.In h4 := e0.mod.kin.keeps (KB kept)
     have hL : s.heap.objs.size ≠ a := Ne.symm (Nat.ne_of_lt (Heap.lt_size ho))
     have ns4 : h4.Ns s.heap.objs.size (fun x => ([self, par].zip [Value.ref a, u2]).reverse.lookup x) := by
      obtain ⟨oL, es, ep, hL1, rest⟩ := hns
      exact ⟨oL, es, ep, k4 _ _ hL (k3 _ _ (k2 _ _ hL1)), rest⟩
     have hok4 : HOk P w H h4 := fun b o q => by
      by_cases hb : b = a
      · subst hb
        rw [ea] at q
        cases q
        exact L2.exo_ok a4
      · exact (e0.hok b o q).stay (fun c v hc z => kept c v (by
          rcases hc with hc | hc
          · rw [hc]; exact hb
          · exact L2.at_ne ea hc L2.exo_own) z) (fun _ y => y) fun _ _ y => y
     refine ks_wpAt_execs_cons (wpAt_of_wpAny (plainObj_wpAny_Assign_Attribute ?_ (hsw2 _)))
     refine wpAny_Name (wpAny_loadName_local hk hkpar ns4 l2 ?_) hdp
     refine wpAny_Name (wpAny_loadName_local hk hkself ns4 l1 ?_) hds
     refine PySem.W.set_plain K4 (ox := { cls := .ref C, dict := none, data := .fields #[.ref t4, .none, .none, .none, .bool false, .none] }) (od := none) ⟨a4, rfl, rfl, trivial⟩ F.T.sa ?_
     refine PySem.HandSPX.exc_osa K4 a4 hcl (show PySem.HandSPX.refsVE (.ref C :: bm) = true from hbm) rfl F.nof (fun h' tk' dx kk dn dne hx hn => ?_)
     refine wpAt_of_wpAny (wpAny_execs_nil ?_)
     have hnd : H dx = none := hok4.fresh dn
     have nd : ∀ {b : Addr} {o : Obj}, s.heap.get? b = some o → b ≠ dx := fun {b o} q z => by
      by_cases hb : b = a
      · exact dne (z ▸ hb)
      · have := Heap.lt_size (kept b o hb q)
        rw [z] at this
        exact absurd (Nat.lt_of_lt_of_le this dn) (Nat.lt_irrefl _)
     have na : ∀ {b : Addr}, H b = none → b ≠ a := fun {b} n z => by
      rw [z, ea] at n
      cases n
     have Un1 : Un (frs outer) [] H (upd (upd H dx (L2.exd dx [(fld, v)])) a (L2.exo a C (some dx))) s.heap h' := {
      keep := fun b o q n _ _ => kk b o (na n) (kept b o (na n) q)
      slot := fun b o q n _ _ => ⟨o.slots, kk b o (na n) (kept b o (na n) q)⟩
      free := fun b o q n _ => by rw [upd_ne (na n), upd_ne (nd q)]; exact n
      there := fun b o q _ => by
       by_cases hb : b = a
       · exact ⟨_, by rw [hb]; exact hx⟩
       · exact ⟨o, kk b o hb (kept b o hb q)⟩
      tups := fun b xs q => by rw [upd_ne (L2.at_ne ea q L2.exo_tup), upd_ne (ne_of_none q hnd)]; exact q
      frzs := fun b o v q => by rw [upd_ne (L2.at_ne ea q L2.exo_frz), upd_ne (ne_of_none q hnd)]; exact q
      tbls := fun b ps q => ⟨#[], by rw [upd_ne (L2.at_ne ea q L2.exo_tbl), upd_ne (ne_of_none q hnd), q]; simp⟩ }
     refine ⟨.non, _, rfl, e0.bare, Un1, fun b o q => ?_, rfl, hq dx hnd dne⟩
     by_cases hb : b = a
     · subst hb
       rw [upd_same] at q
       cases q
       exact L2.exo_ok hx
     · rw [upd_ne hb] at q
       by_cases hdx : b = dx
       · subst hdx
         rw [upd_same] at q
         cases q
         exact L2.exd_ok hn (L2.relO_put (fs := []) r2 fun g => True.intro)
       · rw [upd_ne hdx] at q
         exact (hok4 b o q).stay (fun c v hc z => kk c v (by
           rcases hc with hc | hc
           · rw [hc]
             exact hb
           · exact L2.at_ne ea hc L2.exo_own) z)
          (fun c hc => by rw [upd_ne (L2.at_ne ea hc L2.exo_own), upd_ne (ne_of_none hc hnd)]; exact hc) (fun c xs hc => by rw [upd_ne (L2.at_ne ea hc L2.exo_tup), upd_ne (ne_of_none hc hnd)]; exact hc)
end
end Dl
namespace Dl
open PySem L2
open PyProof.Rows hiding St
theorem two_kept {hp : Heap} {o1 o2 : Obj} : ∀ b o, hp.get? b = some o → ((hp.push o1).push o2).get? b = some o := fun _ _ z => Heap.get?_push_of_some _ (Heap.get?_push_of_some _ z)
theorem xi_heap {G : Hp} {a dx : Addr} {o1 o2 o3 o4 : HO} (na : G a = none) (hd : dx ≠ a) : upd (del (upd (upd (upd G a o1) dx o2) a o3) a) dx o4 = upd G dx o4 := by
 funext b
 by_cases e1 : b = dx
 · subst e1; rw [upd_same, upd_same]
 · rw [upd_ne e1, upd_ne e1]
   by_cases e2 : b = a
   · subst e2; rw [del_same, na]
   · rw [del_ne e2, upd_ne e2, upd_ne e1, upd_ne e2]
theorem pmk_xi {X : Cx} {x fld self par : Str} {e : Expr} {ta : TA} {p pos : Pos} {C fI : Addr} {k : Nat} {fd : FuncData} (T : OexC X.K C) (iC : PySem.W.findIn X.K (.ref C) "__init__" = some (some (.ref fI))) (tI : PySem.W.typeIn X.K (.ref fI) = some (.type "function"))
  (FI : FnOk X.prog X.w X.K X.mg X.base (L2N.CX X.prog X.w) k fI fd [self, par] (spXi C fld)) (room : Room (k + 1) X.A) (bd : Binds X.K fd [self, par] []) (out : Passes (L2N.CX X.prog X.w) X (fun _ _ _ => False)) (hg : Gl X x) (hm : X.mg x = some (.ref C)) (ha : PA X [e] ta)
  (hdb : (x == ("__debug__" : Str)) = false) (hst : starEach [e] X.env = (false, eval e X.env) :: starEach [] X.env) (hpl : (backTo pos (starEach [] X.env)).any (·.1) = false) :
  L2N.PMk X (.Call (.Name x p) [e] [] pos) (fun ρ G Q => ta ρ G fun vs G1 => ∃ v, vs = [v] ∧ ∀ dx, G1 dx = none → Q (.ref C) (some dx) (upd G1 dx (.xd [(fld, v)]))) := fun pl t ρ G Q I h => by
 obtain ⟨nm, qn, ns, bs, bm, sn, sub, ab, col, dd, k0, k1, k2, k3, k5, lkC, tail⟩ := T.cls
 have has := fun Y => PySem.HandSPX.refsVE_contains Y bm tail
 refine wpAny_Call_Name_kw (ld_glob I hg hm (PySem.W.callWith_K (h₀ := X.base) I.ok.mod.kin T.kC (thn (ha.run pos pl t ρ G _ I h) fun us t1 ⟨vs, G1, I1, r1, v, ev, q⟩ => ⟨I1.kIn, ?_⟩) hst hpl) hdb)
 subst ev
 cases r1 with
 | @cons _ u _ ur ru rr =>
 cases rr
 obtain ⟨hp, gn, dr, tk, os⟩ := t1
 have big : hp.objs.size ≤ hp.objs.size + 1 := Nat.le_succ _
 have na : G1 (hp.objs.size + 1) = none := I1.hok.fresh big
 have at_a : ((hp.push (PySem.W.kdv_tup [u])).push (PySem.HandSPX.excO C hp.objs.size)).get? (hp.objs.size + 1) = some (PySem.HandSPX.excO C hp.objs.size) := by heap_get
 have I2 : Inv X pl ρ (upd G1 (hp.objs.size + 1) (exo (hp.objs.size + 1) C none)) ⟨(hp.push (PySem.W.kdv_tup [u])).push (PySem.HandSPX.excO C hp.objs.size), gn, dr, tk, os⟩ := I1.laid (t' := tk) (a := hp.objs.size + 1) (o := exo (hp.objs.size + 1) C none) two_kept big (exo_ok at_a)
 have bd2 := bd ⟨(hp.push (PySem.W.kdv_tup [u])).push (PySem.HandSPX.excO C hp.objs.size), gn, dr, tk, os⟩ [.ref (hp.objs.size + 1), u] I2.kIn rfl
 refine wpAny_call (PySem.HandSPX.call_own F.excBase_ValueError has (I1.kIn _ _ lkC) (PySem.W.looks_findIn I1.kIn iC) (fun me => PySem.W.bind_fn I1.kIn me tI) (by show 1 ≤ sizeLine; rw [sizeLine_eq]; decide) ?_)
 have run := FI.run _ X.stack ⟨(hp.push (PySem.W.kdv_tup [u])).push (PySem.HandSPX.excO C hp.objs.size), gn, dr, tk, os⟩ (upd G1 (hp.objs.size + 1) (exo (hp.objs.size + 1) C none)) ⟨[.ref (hp.objs.size + 1), u], []⟩ [.ref (hp.objs.size + 1), u] [.ref (hp.objs.size + 1), v] (fun w G2 => w = .non ∧ ∃ dx, dx ≠ hp.objs.size + 1 ∧ G1 dx = none ∧ G2 = upd (upd (upd G1 (hp.objs.size + 1) (exo (hp.objs.size + 1) C none)) dx (exd dx [(fld, v)])) (hp.objs.size + 1) (exo (hp.objs.size + 1) C (some dx))) (fun _ _ _ => False)
  (room.make C [u] []) (I2.env0.make C [u] []) bd2 (.cons rfl (.cons ru .nil)) ⟨hp.objs.size + 1, v, rfl, upd_same, fun dx fr ne => ⟨rfl, dx, ne, by rw [upd_ne ne] at fr; exact fr, rfl⟩⟩
 refine codeAny_mono run fun r t2 done => ?_
 cases r with
 | error x => exact out pl ρ _ _ x t2 I2 done
 | ok fl =>
  cases fl with
  | next => exact done.elim
  | brk => exact done.elim
  | cont => exact done.elim
  | ret w =>
   obtain ⟨wv, G2, os2, bare, un, ok2, rw', ew, dx, ne, fr, eG⟩ := done
   subst ew eG
   obtain ⟨h3, gn3, dr3, tk3, os3⟩ := t2
   have ea : (upd (upd (upd G1 (hp.objs.size + 1) (exo (hp.objs.size + 1) C none)) dx (exd dx [(fld, v)])) (hp.objs.size + 1) (exo (hp.objs.size + 1) C (some dx))) (hp.objs.size + 1) = some (exo (hp.objs.size + 1) C (some dx)) := upd_same
   have ed : (upd (upd (upd G1 (hp.objs.size + 1) (exo (hp.objs.size + 1) C none)) dx (exd dx [(fld, v)])) (hp.objs.size + 1) (exo (hp.objs.size + 1) C (some dx))) dx = some (exd dx [(fld, v)]) := by rw [upd_ne ne]; exact upd_same
   obtain ⟨t0, hI, J, keep, gone, here, nothing⟩ := mk_end0 (d2 := dr3) (t2 := tk3) I1 big two_kept un ok2 os2 bare ea ed fr
   have z := q dx fr
   rw [xi_heap na ne] at J nothing
   exact ⟨rw', hp.objs.size + 1, _, _, ⟨hI, gn3, dr3, tk3, os3⟩, _, .ref C, some dx, rfl, J, keep, gone, here, ⟨rfl, rfl, fun fs z => by cases z; rfl⟩, rfl, rfl, nothing, rfl, bare, raises_own T.exC T.tyC, z⟩
def raF (C fld : Str) : List Rv → MS
 | [.val d] => fun ρ => some (.ex ⟨C, [fld], [d]⟩ ρ)
 | _ => fun _ => none
def sRaiseF (C fld : Str) (ga : M (List Rv)) : MS := thenS ga (raF C fld)
structure RaF (P : Program) (w : World) (K : PySem.W.Frag) (mg : Str → Option Value) (base : Heap) (x fld : Str) (k : Nat) : Prop where
 at_ : mg x = some (.ref (He.ga K x))
 T : OexC K (He.ga K x)
 ex : ∃ (fI : Addr) (fd : FuncData) (self par : Str), PySem.W.findIn K (.ref (He.ga K x)) "__init__" = some (some (.ref fI)) ∧ PySem.W.typeIn K (.ref fI) = some (.type "function") ∧ Binds K fd [self, par] [] ∧ FnOk P w K mg base (L2N.CX P w) k fI fd [self, par] (spXi (He.ga K x) fld)
section
variable {X : Cx} {W : WX} {np : Nat} {pos p pos' : Pos} {e : Expr} {ga : M (List Rv)}
theorem ds_raiseF {x fld : Str} {k : Nat} (go : Go X W) (T : RaF X.prog X.w X.K X.mg X.base x fld k) (hr : Room (k + 1) X.A) (ha : DA X W [e] ga) (hg : Gl X x := by exact rfl) (hdb : (x == ("__debug__" : Str)) = false := by decide) (he : starEach [e] X.env = (false, eval e X.env) :: starEach [] X.env := by rfl) (hpl : (backTo pos (starEach [] X.env)).any (·.1) = false := by rfl) :
  DS X W np (.Raise (some (.Call (.Name x p) [e] [] pos)) none pos') (sRaiseF x fld ga) := by
 obtain ⟨fI, fd, self, par, iC, tI, hb, F1⟩ := T.ex
 refine ⟨(L2N.ps_raise go.calm go.tk (pmk_xi T.T iC tI F1 hr hb (fun pl ρ G t x t' I c => go.tk x t' (L2N.XE.of_call I (fun _ _ _ z => False.elim z) c)) hg T.at_ ha.pa hdb he hpl)).weak fun Dn σ H ⟨c, G, ρ, o, hl, R, h, po⟩ => ?_⟩
 refine tS_step R h po fun rs ρ1 vs G1 H1 R1 s1 r h1 po1 => ?_
 unfold raF at h1
 match rs, vs, r, h1 with
 | [.val d], [v], ⟨rv, _⟩, h1 =>
  cases h1
  refine ⟨v, rfl, fun dx hd => ?_⟩
  obtain ⟨R2, s2⟩ := R1.laidG (o := .xd [(fld, v)]) hd fun b z => by cases z
  exact po1 (.ref (He.ga X.K x)) (some dx) σ _ _ R2 s2 ⟨rfl, dx, [(fld, v)], rfl, upd_same, [v], rfl, ⟨v, [], rfl, Rp.mono s2 d v rv, rfl⟩, rfl⟩
end
end Dl
open HotX (HotAt pyNext_range_end_hot)
namespace Dl
open PySem L2
open PyProof.Rows hiding St
structure HotW (X : Cx) : Prop where
 ex : ∃ q : Addr × Obj, L2H.Hot1 X.A q ∧ ∀ (pl : List (Addr × Obj)) (ρ : L2.St) (G : Hp) (t : Shared), Inv X pl ρ G t → L2H.PinOk X.stack G t q
theorem hot_out {X : Cx} {pl : List (Addr × Obj)} {ρ : L2.St} {G : Hp} {t : Shared} {q : Addr × Obj} (I : Inv X pl ρ G t) (hq : q ∈ X.pn) : L2H.PinOk X.stack G t q := by
 obtain ⟨get, free, nl, nf, nc⟩ := I.pin q (List.mem_append_left _ hq)
 refine ⟨get, free, fun z => ?_, nc⟩
 rcases List.mem_cons.mp (I.stkSub q.1 z) with y | y
 · exact nl y
 · exact nf y
theorem HotW.of {X : Cx} (h : L2H.HotC X) : HotW X :=
 let ⟨q, hq, mq⟩ := h
 ⟨q, hq, fun _ _ _ _ I => hot_out I mq⟩
theorem hot_block {X : Cx} {pl : List (Addr × Obj)} {ρ : L2.St} {G : Hp} {t : Shared} {scope : Scope} {ce : Env} {it : Addr} (c : L2H.HotC X) (I : Inv X pl ρ G t) (fit : FpOk X pl G it) : HotW (X.blk t G scope ce [it]) := by
 obtain ⟨q, hq, mq⟩ := c
 obtain ⟨get, free, out, nc⟩ := hot_out I mq
 have away : q.1 ∉ [it] := fun z => fit.2.2.2.2.2 q (List.mem_append_left _ mq) (List.mem_singleton.mp z)
 exact ⟨q, hq, fun _ _ _ _ J => ⟨J.base.keep _ _ get free out away, J.base.free _ _ get free away, out, nc⟩⟩
structure Btw (B : Cx) (ρ : L2.St) (it : Addr) (n : Nat) (V : Nat → Nat → Hp → Prop) (m : Nat) (t : Shared) : Prop where
 ex : ∃ (j : Nat) (G : Hp), Inv B [] ρ G t ∧ IsRangeIter t.heap it (j : Int) ((n : Int) - (j : Int)) 1 ∧ G it = none ∧ V j m G
theorem rng_fields {h : Heap} {it : Addr} {x l s : Int} (st : IsRangeIter h it x l s) : ∃ o, h.get? it = some o ∧ ∀ v, o.data ≠ .cell v :=
 ⟨_, st, fun v z => by cases z⟩
section
variable {B : Cx} {ρ : L2.St} {vs : List Nat} {it L : Addr} {n : Nat} {tg elt iter : Expr} {ifs : List Expr} {scope : Scope} {pos : Pos} {g : TG} {tt : TT} {te : TE} {V : Nat → Nat → Hp → Prop} {R : Result → Shared → Prop} {fin : Hp → Prop}
theorem it_out {pl : List (Addr × Obj)} {G : Hp} {t : Shared} (I : Inv B pl ρ G t) (hx : B.ex = [it]) (fr : G it = none) (np : ∀ q ∈ B.pn ++ pl, q.1 ≠ it) : FpOk B pl G it := by
 have mit : it ∈ B.ex := by rw [hx]; exact List.mem_singleton.mpr rfl
 exact ⟨fr, (I.ok.exf it mit).1, I.ok.exfs it mit, .inl mit, (I.ok.exf it mit).2, np⟩
theorem loopW (hw : HotW B) (hx : B.ex = [it]) (hp : B.pn = []) (he : B.xe = fun _ _ => False) (gB : PG B tg g) (tB : PTs B ifs tt) (eB : PE B elt te)
  (turn : ∀ j m G, V j m G → (n ≤ j ∧ fin G) ∨ (j < n ∧ ∃ Nx : Hp → Prop, (∀ G', Nx G' → ∃ m', m' < m ∧ V (j + 1) m' G') ∧
   g (.int (0 + (j : Int))) (wipe ρ vs) G fun σ2 G2 => wipe σ2 vs = wipe ρ vs ∧ tt σ2 G2 fun b G3 => if b = true then te σ2 G3 fun y G4 => ∃ acc, G4 L = some (.lst acc) ∧ acc.length < sizeLine ∧ Nx (upd G4 L (.lst (acc ++ [y]))) else Nx G3))
  (done : ∀ t G, Inv B [] (wipe ρ vs) G t → fin G → R (.ok .next) t) (m : Nat) (t : Shared) (h : Btw B (wipe ρ vs) it n V m t) :
  codeAny (model B.prog B.w) B.A (.compLoop (.ListComp elt [⟨tg, iter, ifs, 0⟩] scope pos) 0 (.ref it) (.ref L) B.env) R t := by
 refine compLoop_any (Btw B (wipe ρ vs) it n V) (fun m t b => ?_) m h
 obtain ⟨j, G, I, st, fr, v⟩ := b.ex
 have np : ∀ q ∈ B.pn ++ ([] : List (Addr × Obj)), q.1 ≠ it := fun q hq => by rw [hp] at hq; cases hq
 obtain ⟨_, f1, f2, f3, f4, f5⟩ := it_out I hx fr np
 rcases turn j m G v with ⟨hj, f⟩ | ⟨hj, Nx, hN, step⟩
 · obtain ⟨q, hot, pk⟩ := hw.ex
   obtain ⟨vq, d1, d2⟩ := hot.2
   refine pyNext_range_end_hot (x1 := q.1) ⟨hot.1, q.2, vq, (pk _ _ _ _ I).get, d1, d2⟩ st (by omega) fun h' k => ?_
   exact done _ G (I.kept (t' := t.toks) k) f
 · refine wpAny_pyNext_range_item st (by omega) fun h' st' sb => ?_
   have I1 : Inv B [] (wipe ρ vs) G { t with heap := h', toks := t.toks + 1 } := I.turned (it := it) (fun b o hb e => (sb.2 b hb).trans e) fr f1 f3 f4 f5
   have st2 : IsRangeIter h' it ((j + 1 : Nat) : Int) ((n : Int) - ((j + 1 : Nat) : Int)) 1 := by
    rw [show ((j + 1 : Nat) : Int) = (j : Int) + 1 by omega, show (n : Int) - ((j : Int) + 1) = (n : Int) - (j : Int) - 1 by omega]
    exact st'
   refine go_of (n := "range_iterator") (s := { t with heap := h', toks := t.toks + 1 }) st2 rfl rfl (by decide) ?_
   have I2 : Inv B ([] ++ pinsAt [it] h') (wipe ρ vs) G { t with heap := h', toks := t.toks + 1 } :=
    I1.pinned (fp := [it]) (fun b hb => by rw [List.mem_singleton.mp hb]; exact it_out I1 hx fr np) fun b hb => by rw [List.mem_singleton.mp hb]; exact rng_fields st2
   have back : ∀ {t' : Shared} {G' : Hp} {σ2 : L2.St}, wipe σ2 vs = wipe ρ vs → Inv B ([] ++ pinsAt [it] h') σ2 G' t' → Nx G' → ∃ m', m' < m ∧ Btw B (wipe ρ vs) it n V m' t' := fun {t' G' σ2} ew J nx => by
    obtain ⟨m', lt, v'⟩ := hN G' nx
    obtain ⟨o, eo, _⟩ := rng_fields st2
    have P := J.pin (it, o) (List.mem_append_right _ (List.mem_append_right _ (mem_pinsAt (List.mem_singleton.mpr rfl) eo)))
    refine ⟨m', lt, ⟨j + 1, G', (J.unpinned (pins := [])).weak (by rw [← ew, wipe_length]) fun i x e => ?_, ?_, P.2.1, v'⟩⟩
    · rw [← ew] at e
      exact (wipe_some e).1
    · have e2 : t'.heap.get? it = h'.get? it := P.1.trans eo.symm
      exact e2.trans st2
   refine thnF (he ▸ gB.run _ _ _ G (.int (0 + (j : Int))) (.int (j : Int) t.toks) _ I2 ⟨t.toks, by rw [Int.zero_add]⟩ step) fun _ t8 ⟨σ8, G8, I8, e8, q8⟩ => ?_
   refine thnF (he ▸ tB.run _ t8 σ8 G8 _ I8 q8) fun b t9 ⟨G9, I9, q9⟩ => ?_
   cases b with
   | false => exact back e8 I9 q9
   | true =>
    show wpAny _ _ _ _ _ _
    refine thnF (he ▸ eB.run _ t9 σ8 G9 _ I9 q9) fun z t10 ⟨yv, G10, I10, r10, acc, h1, h2, nx⟩ => ?_
    exact app_ok I10 h1 h2 r10 fun t11 I11 => back e8 I11 nx
end
section
variable {X : Cx}
abbrev bAt (X : Cx) (scope : Scope) (t : Shared) (G : Hp) (it : Addr) : Cx :=
 X.blk t G scope (compEnvC scope (cellsFrom (t.heap.objs.size + 1) scope.names (cloFrom X.env.cells scope.names [])) t.heap.objs.size X.env) [it]
structure BlkW (X : Cx) (scope : Scope) (tg elt : Expr) (ifs : List Expr) (g : TG) (tt : TT) (te : TE) : Prop where
 all : ∀ (t : Shared) (G : Hp) (it : Addr), HotW (bAt X scope t G it) → PG (bAt X scope t G it) tg g ∧ PTs (bAt X scope t G it) ifs tt ∧ PE (bAt X scope t G it) elt te
theorem ps_rngLcW {i : Nat} {y : Str} {py p rp : Pos} {a elt tg : Expr} {ifs : List Expr} {scope : Scope} {own : List (Str × Nat)} {pos spos : Pos} {ta : TA} {g : TG} {tt : TT} {te : TE} (hot : L2H.HotC X) (nd : X.N.Nodup)
  (hy : X.N[i]? = some y) (hyl : X.env.scope.names.lookup y = some .local) (hsw : swapsWith (.ListComp elt [⟨tg, .Call (.Name "range" p) [a] [] rp, ifs, 0⟩] scope pos) (some (.Name y py)) spos.line X.env = pure true)
  (hg : Gl X "range") (hm : X.mg "range" = none) (ha : PA X [a] ta) (hst : starEach [a] X.env = [(false, eval a X.env)]) (hfs : ∀ x, foldedSetIterable (.Call (.Name "range" p) [a] [] rp) X.env x = pure x)
  (ok : BlkOk X.N X.env.scope scope own) (W : BlkW X scope tg elt ifs g tt te) :
  PS X (.Assign [.Name y py] (.ListComp elt [⟨tg, .Call (.Name "range" p) [a] [] rp, ifs, 0⟩] scope pos) spos) (tAsg (tLc (L2.iRng1 ta) g tt te (own.map (·.2))) (gName i)) := by
 refine ⟨fun pl t ρ G D I h => ?_⟩
 have cap : ∀ z ∈ scope.names, z.2 = .free → ∃ c, X.env.cells.lookup z.1 = some c := fun z hz e => I.ok.has _ (ok.free z hz e)
 rw [exec_Assign_Name_used _ _ _ _ hsw]
 refine wpAny_bind (wpAny_standAt (wpAny_bind (wpAny_bind ?_)))
 refine wpAny_comprehension_free (cl := cloFrom X.env.cells scope.names []) rfl hfs (closure_ok cap) ok.kind (fun z hz e => by rw [ok.uniq z hz, e]) ?_
 refine Call_ (ld_blt I hg hm boot_range (PyProof.Rows.callWith_type1 (thn (ha.run rp pl t ρ G _ I h) fun us t1 ⟨ws, G1, I1, r1, k, ew, b1, b2, q⟩ => ?_) hst rfl))
 subst ew
 cases r1 with
 | cons r rr =>
 cases rr
 obtain ⟨tk, rfl⟩ := r
 refine call_range_1 (wpAny_pyIter_range (IsRange.new ..) (small_one (by omega) (by omega) b1 b2) ?_)
 generalize hT : ({ t1 with heap := t1.heap.push { cls := .type "range", data := .fields #[.int 0 t1.toks, .int k tk, .int 1 (t1.toks + 1)] }, toks := t1.toks + 1 + 1 } : Shared) = T
 have IT : Inv X pl ρ G1 T := by
  subst hT
  exact I1.kept fun b o e => Heap.get?_push_of_some _ e
 have fit : FpOk X pl G1 T.heap.objs.size := IT.fpOk (Nat.le_refl _) (IT.hok.fresh (Nat.le_refl _))
 have zs : Builtin.Range.rangeSize 0 k 1 = ((k.toNat : Nat) : Int) := by rw [rangeSize_one]; split <;> omega
 generalize hit : T.heap.objs.size = it at *
 generalize hU : ({ heap := T.heap.push { cls := .type "range_iterator", data := .fields #[rawInt 0, rawInt (Builtin.Range.rangeSize 0 k 1), rawInt 1] }, gens := T.gens, drawn := T.drawn, toks := T.toks, os := T.os } : Shared) = U
 have IU : Inv X pl ρ G1 U := by
  subst hU
  exact IT.kept (t' := T.toks) fun b o e => Heap.get?_push_of_some _ e
 have stU : IsRangeIter U.heap it ((0 : Nat) : Int) (((k.toNat : Nat) : Int) - ((0 : Nat) : Int)) 1 := by
  subst hU
  rw [show ((k.toNat : Nat) : Int) - ((0 : Nat) : Int) = Builtin.Range.rangeSize 0 k 1 by rw [zs]; simp, ← hit]
  exact Heap.get?_push_size _ rfl
 refine wpAny_newObj_type (newEnv_comp ?_) (by show 0 ≤ sizeLine; decide)
 generalize hL : U.heap.objs.size = L at *
 have nL : G1 L = none := IU.hok.fresh (Nat.le_of_eq hL)
 obtain ⟨V, ⟨m0, v0⟩, turn⟩ := q L nL
 generalize hZ : ({ U with heap := U.heap.push { cls := .type "list", data := .seq ([] : List Value).toArray } } : Shared) = Z
 have upZ : ∀ b o, U.heap.get? b = some o → Z.heap.get? b = some o := by
  subst hZ
  exact fun b o e => Heap.get?_push_of_some _ e
 have IZ : Inv X pl ρ (upd G1 L (.lst [])) Z := by
  subst hZ
  refine IU.laid (t' := U.toks) (fun b o e => Heap.get?_push_of_some _ e) (Nat.le_of_eq hL) ⟨Nat.zero_le _, [], 0, .nil, ?_⟩
  rw [← hL]
  exact Heap.get?_push_size _ rfl
 have itL : it ≠ L := fun z => by
  have y := Heap.lt_size stU
  rw [z, ← hL] at y
  exact absurd y (Nat.lt_irrefl _)
 have fitZ : FpOk X pl (upd G1 L (.lst [])) it := ⟨by rw [upd_ne itL]; exact fit.1, fit.2⟩
 have J0 := block_start (scope := scope) (fp := [it]) IZ ok nd fun b hb => by
  rw [List.mem_singleton.mp hb]
  exact ⟨fitZ, Heap.lt_size (upZ _ _ stU)⟩
 have hw : HotW (bAt X scope Z (upd G1 L (.lst [])) it) := hot_block hot IZ fitZ
 obtain ⟨pg, pt, pe⟩ := W.all Z (upd G1 L (.lst [])) it hw
 have hC : ∀ G', G' Z.heap.objs.size = none → FpOk X pl G' Z.heap.objs.size := fun G' e => IZ.fpOk (Nat.le_refl _) e
 have loop := loopW (L := L) (elt := elt) (iter := .Call (.Name "range" p) [a] [] rp) (scope := scope) (pos := pos) (R := compPost (model X.prog X.w) X.A X.xe (some (assign (.Name y py) X.env))
   (fun a s' => wpAny (model X.prog X.w) X.A (pure ()) (fun a s' => wpAny (model X.prog X.w) X.A (pure Flow.next) (SP X pl D) X.xe s') X.xe s') (.ref L) Z.heap.objs.size) hw rfl rfl rfl pg pt pe (vs := own.map (·.2)) (ρ := ρ) (n := k.toNat)
  (fun j m G v => (turn j m G v).imp (fun z => z) fun ⟨go, Nx, hN, step⟩ => ⟨go, Nx, hN, step _ G ⟨rfl, rfl⟩⟩)
  (fun t' G' J f => by
   have Ib : Inv X pl ρ G' t' := IZ.call' (ch := [it]) J.os J.base J.hok J.bare fun b hb => by
    rw [List.mem_singleton.mp hb]
    exact ⟨fit.2.2.2.1, fit.2.1, fit.2.2.2.2.1, fit.2.2.2.2.2⟩
   obtain ⟨c0, c1, c2, c3, c4, c5⟩ := hC G' J.free
   obtain ⟨mc, hn, _⟩ := J.loc
   show wpAny _ _ (assign (.Name y py) X.env (.ref L)) _ _ _
   refine wpAny_assign_Name (store_ok2 (v := .ref L) Ib nd hy (.inl hyl) rfl (fun t2 I2 ⟨b, sb, hb⟩ => ?_) (.inr hyl))
   have cb : Z.heap.objs.size ≠ b := by
    rcases hb with z | z
    · rw [z]; exact c1
    · exact fun e => c4 y b z e.symm
   exact ⟨mc, hn.sameBut sb cb, fun h3 sb3 => wpAny_pure (wpAny_pure ⟨_, G', I2.turned (t' := t2.toks) (fun b o hb e => (sb3.2 b hb).trans e) c0 c1 c3 c4 c5, f⟩)⟩)
  m0 _ ⟨0, _, J0, by
   have e := upZ _ _ stU
   exact pushCells_keeps _ _ _ _ (Heap.get?_push_of_some _ e), fitZ.1, v0⟩
 exact codeAny_compStart_list loop (wpAny_pyIter_rangeiter (by
  have e := upZ _ _ stU
  exact pushCells_keeps _ _ _ _ (Heap.get?_push_of_some _ e)) loop)
end
end Dl
namespace Dl
open PySem L2
open PyProof.Rows hiding St
section
variable {X : Cx} {W : WX} {np : Nat} {a elt tg : Expr} {ga : M (List Rv)} {pos p rp : Pos} {ifs : List Expr} {scope : Scope} {g : D → List S → Option (List S)} {ts : List Nat} {tt : M Bool} {te : M Rv}
theorem rng_conv {K : PySem.W.Frag} {σ : L2.St} {H : Hp} {R : It → Hp → Prop} (h : tDI K W (iRng1 ga) σ H R) : L2.iRng1 (tDA K W ga) σ H R := by
 obtain ⟨c, G, ρ, Rs, w⟩ := h
 refine tg_step Rs (Same.refl G) w fun rs ρ1 vs G1 H1 R1 s1 _ k1 w1 => ?_
 obtain ⟨ds, kd, w2⟩ := peeks_wp R1 k1 (wpM_bind w1)
 obtain ⟨q, eq, w3⟩ := ofO_wp w2
 unfold dRng1 at eq
 split at eq
 · rename_i j
   by_cases hr : rngOk 0 j = true
   · rw [if_pos hr] at eq
     cases eq
     obtain ⟨v, rfl, kv⟩ := kd.one
     have hb := of_decide_eq_true (p := -(2 ^ 61) ≤ (0 : Int) ∧ (0 : Int) < 2 ^ 61 ∧ -(2 ^ 61) ≤ j ∧ j - 0 ≤ 16777216) hr
     exact ⟨j, by rw [kv.int], by omega, by omega, w3 _ G1 H1 R1 s1 (walks_range (by rw [PySem.sizeLine_eq]; omega))⟩
   · rw [if_neg hr] at eq; cases eq
 · cases eq
theorem ds_setLcW {y : Str} {py spos : Pos} (i : Nat) (own : List (Str × Nat)) (hy : X.N[i]? = some y) (hyl : X.env.scope.names.lookup y = some .local) (hk : X.env.scope.kind = .function) (hln : (py.line == pos.line) = true) (hnn : (scope.names.any fun (n, k) => n == y && (k == .local || k == .cell)) = false) (hc : L2H.HotC X) (nd : X.N.Nodup)
  (hg : Gl X "range") (hm : X.mg "range" = none) (ha : DA X W [a] ga) (ok : BlkOk X.N X.env.scope scope own)
  (hB : ∀ (s : Shared) (H : Hp) (it : Addr), HotW (bAt X scope s H it) → DG (bAt X scope s H it) tg ts g ∧ DTs (bAt X scope s H it) ifs tt ∧ DE (bAt X scope s H it) WX0 elt te)
  (hts : ∀ t ∈ ts, t ∈ own.map (·.2) := by decide) (hst : starEach [a] X.env = [(false, eval a X.env)] := by rfl) (hfs : ∀ x, foldedSetIterable (.Call (.Name "range" p) [a] [] rp) X.env x = pure x := by intro _; rfl) :
  DS X W np (.Assign [.Name y py] (.ListComp elt [⟨tg, .Call (.Name "range" p) [a] [] rp, ifs, 0⟩] scope pos) spos) (sSet np i (eLc (iRng1 ga) g tt te (own.map (·.2)))) :=
 ⟨(ps_rngLcW (g := tDG X.K ts g) (tt := tDT X.K WX0 tt) (te := tD X.K WX0 te) hc nd hy hyl (sw_true hk hyl hln hnn) hg hm ha.pa hst hfs ok ⟨fun t G it w => let ⟨b1, b2, b3⟩ := hB t G it w; ⟨b1.pg, b2.pts, b3.pe⟩⟩).weak fun Dn σ H h => rng_conv (tD_lc hts (tS_set i h))⟩
end
structure DFW (P : Program) (w : World) (K : PySem.W.Frag) (mg : Str → Option Value) (base : Heap) (x : Str) (k np : Nat) (fn : Fn) : Prop where
 len : ∀ ss o, fn ss = some o → ss.length = np
 ex : ∃ (f : Addr) (fd : FuncData) (ps : List Str), mg x = some (.ref f) ∧ PySem.W.keepIn K (.ref f) = true ∧ Binds K fd ps [] ∧ FnP P w K mg base (L2N.CX P w) k f ps fd (fun _ vs H Q E => spD K np fn vs H Q E)
def BodyW (P : Program) (w : World) (K : PySem.W.Frag) (mg : Str → Option Value) (base : Heap) (N : List Str) (qual : Str) (scope : Scope) (f : Addr) (body : List Stmt) (np k : Nat) (fb : MS) : Prop :=
 ∀ (cdv : Value) (A : Around) (outer : List Env) (s : Shared) (H : Hp) (E : XK) (p : Addr × Obj), L2H.RoomH k (A.deeper (PyProof.Rows.envOfC qual scope s.heap.objs.size f cdv)) → L2H.HotC (L2H.cxH (L2N.CX P w) P w K mg base N qual scope f cdv A outer s H E p) →
  DL (L2H.cxH (L2N.CX P w) P w K mg base N qual scope f cdv A outer s H E p) (WB E) np body fb
theorem dfw_of {P : Program} {w : World} {K : PySem.W.Frag} {mg : Str → Option Value} {base : Heap} {x : Str} {k : Nat} {ps N : List Str} {f : Addr} {fd : FuncData} {qual : Str} {params : Arguments} {body : List Stmt} {scope : Scope} {fb : MS} (F : FunD K x qual params body scope [] [] f fd) (S : FnScope N ps scope) (hm : mg x = some (.ref f)) (hb : Binds K fd ps [])
  (h : BodyW P w K mg base N qual scope f body ps.length k fb) : DFW P w K mg base x (k + 1) ps.length (mkFn ps.length N.length fb) := by
 refine ⟨mkFn_len, f, fd, ps, hm, F.kp, hb, ?_⟩
 obtain ⟨oc, od, dV, kV, doc, pm, an, cdv, ct, osl, rfl, lk, hcd, hD, hK⟩ := F.ex
 refine fn_ofP lk hcd S (fun p vs H Q E q => ?_) fun A outer s H vs Q E p hot hr q => ⟨_, (h cdv A outer s H E p hr ⟨p, ⟨hot.1, hot.2⟩, List.mem_singleton.mpr rfl⟩).pss, sp_start q⟩
 obtain ⟨c, G, ss, o, hl, _⟩ := q
 exact hl
theorem DFW.up {P : Program} {w : World} {K : PySem.W.Frag} {mg : Str → Option Value} {base : Heap} {x : Str} {j k np : Nat} {fn : Fn} (F : DFW P w K mg base x j np fn) (h : j ≤ k) : DFW P w K mg base x k np fn :=
 let ⟨f, fd, ps, h1, h2, h3, h4⟩ := F.ex; ⟨F.len, f, fd, ps, h1, h2, h3, h4.len, fun A outer s H args us vs Q E p hr => h4.run A outer s H args us vs Q E p (hr.mono h)⟩
section
variable {X : Cx} {W : WX} {x C : Str} {k np : Nat} {fn : Fn} {mu : List Bool} {e : Expr} {es : List Expr} {ga : M (List Rv)} {p pos : Pos} {a : Addr}
theorem de_callW (mu : List Bool) (tk : L2N.Takes X W) (hz : HotW X) (F : DFW X.prog X.w X.K X.mg X.base x k np fn) (hr : L2H.RoomH k X.A) (hg : Gl X x) (ha : DA X W (e :: es) ga)
  (hdb : (x == ("__debug__" : Str)) = false := by decide) (he : starEach (e :: es) X.env = (false, eval e X.env) :: starEach es X.env := by rfl) (hpl : (backTo pos (starEach es X.env)).any (·.1) = false := by rfl) :
  DE X W (.Call (.Name x p) (e :: es) [] pos) (eCall mu fn ga) := by
 obtain ⟨f, fd, ps, hm, hk, hb, FO⟩ := F.ex
 obtain ⟨pp, hot, hp⟩ := hz.ex
 have pe : PE X (.Call (.Name x p) (e :: es) [] pos) (tCallS (spD X.K np fn) (WE W) (tDA X.K W ga)) := by
  refine ⟨fun pins s σ H Q I h => ?_⟩
  refine wpAny_Call_Name_kw (ld_glob I hg hm ?_ hdb)
  refine PySem.W.callWith_K (h₀ := X.base) I.ok.mod.kin hk (thn (ha.pa.run pos pins s σ H _ I h) fun us s1 ⟨vs, H1, I1, r, q⟩ => ⟨I1.kIn, ?_⟩) he hpl
  have hl : us.length = ps.length := by rw [← r.length]; exact FO.len pp _ _ _ _ q
  have b := hb s1 us I1.kIn (by rw [List.append_nil]; exact hl)
  rw [List.append_nil] at b
  refine wpAny_call (codeAny_mono (FO.run X.A X.stack s1 H1 ⟨us, []⟩ us vs Q _ pp hr hot (hp _ _ _ _ I1) I1.env0 b r q) fun r s' hq => ?_)
  cases r with
  | error e => exact L2N.passAt tk σ pins H1 s1 e s' I1 hq
  | ok fl =>
   cases fl with
   | ret u => exact I1.after hq
   | next => exact False.elim hq
   | brk => exact False.elim hq
   | cont => exact False.elim hq
 refine ⟨pe.weak fun σ H Q ⟨c, G, ρ, R, w⟩ => ?_⟩
 refine tg_step R (Same.refl G) w fun rs ρ1 vs G1 H1 R1 s1 _ k1 w1 => ?_
 exact call_sp R1 s1 k1 F.len w1
end
structure HotF (X : Cx) (C : Str) (a dx : Addr) : Prop where
 ex : ∃ oe, (a, oe) ∈ X.pn ∧ L2N.Zn (.ref (He.ga X.K C)) (some dx) oe ∧ L2H.Hot1 X.A (a, oe)
theorem HotF.c {X : Cx} {C : Str} {a dx : Addr} (h : HotF X C a dx) : L2H.HotC X := let ⟨oe, h1, _, h3⟩ := h.ex; ⟨(a, oe), h3, h1⟩
theorem HotF.w {X : Cx} {C : Str} {a dx : Addr} (h : HotF X C a dx) : HotW X := HotW.of h.c
def gIsF (a dx : Addr) (tc : List (Str × Bool)) (tt : List (String × Bool)) : List D → Option Rv
 | [.xob b d2 _ _, .cls n] => if b = a ∧ d2 = dx then (tc.lookup n).map fun q => .val (.bl q) else none
 | [.xob b d2 _ _, .ty n] => if b = a ∧ d2 = dx then (tt.lookup n).map fun q => .val (.bl q) else none
 | _ => none
def rIsF (K : PySem.W.Frag) (D a dx : Addr) : List V → Hp → VK → Prop := fun vs H Q => (∃ fs, H dx = some (.xd fs)) ∧ L2.rIsE K D a vs H Q
theorem Rh.xob {K : PySem.W.Frag} {c : Cn} {G H : Hp} {a dx : Addr} {ns : List Str} {ds : List D} {v : V} (h : Rh K c G H (.xob a dx ns ds) v) : v = .ref a ∧ ∃ xs, G dx = some (.xd (ns.zip xs)) ∧ ns.length = ds.length ∧ RpL K G ds xs := by
 rcases h with h | ⟨_, _, _, _, z⟩
 · exact h
 · exact z.elim
theorem isF_ok {K : PySem.W.Frag} {C : Str} {a dx : Addr} {tc : List (Str × Bool)} {tt : List (String × Bool)} (T : IsT K C tc tt) : CalR K (rIsF K (He.ga K C) a dx) (gIsF a dx tc tt) := fun {c G H σ ρ vs ds q Q} R kd eq k => by
 unfold gIsF at eq
 split at eq
 · rename_i b d2 ns es n
   by_cases h : b = a ∧ d2 = dx
   · rw [if_pos h] at eq
     obtain ⟨h1, h2⟩ := h
     subst h1 h2
     obtain ⟨v, w, rfl, kv, kw⟩ := kd.two
     obtain ⟨ev, xs, hx, _, _⟩ := Rh.xob kv
     have ew : w = .ref (He.ga K n) := by
      rcases kw with kw | ⟨_, _, _, _, z⟩
      · exact kw
      · exact z.elim
     subst ev ew
     obtain ⟨y, ey, e⟩ := Option.map_eq_some_iff.mp eq
     subst e
     exact ⟨⟨_, R.gh _ _ hx⟩, .ref (He.ga K n), .ref (He.ga K n), y, rfl, fun u h => h, T.own n y ey, k _ G H R (Same.refl G) rfl⟩
   · rw [if_neg h] at eq; cases eq
 · rename_i b d2 ns es n
   by_cases h : b = a ∧ d2 = dx
   · rw [if_pos h] at eq
     obtain ⟨h1, h2⟩ := h
     subst h1 h2
     obtain ⟨v, w, rfl, kv, kw⟩ := kd.two
     obtain ⟨ev, xs, hx, _, _⟩ := Rh.xob kv
     have ew : w = .ty n := by
      rcases kw with kw | ⟨_, _, _, _, z⟩
      · exact kw
      · exact z.elim
     subst ev ew
     obtain ⟨y, ey, e⟩ := Option.map_eq_some_iff.mp eq
     subst e
     exact ⟨⟨_, R.gh _ _ hx⟩, .ty n, .type n, y, rfl, fun u h => h, T.blt n y ey, k _ G H R (Same.refl G) rfl⟩
   · rw [if_neg h] at eq; cases eq
 · cases eq
theorem call_isF {X : Cx} {a D dx : Addr} {oe : Obj} (C : L2.ExcC X.K D) (hz : Zc (.ref D) (some dx) oe) (hf : ∃ vs, oe.data = .fields vs) (hp : (a, oe) ∈ X.pn) : CallR X (.builtin "isinstance") (rIsF X.K D a dx) := by
 intro pins s σ H xs us Q I r h
 obtain ⟨⟨fs, hx⟩, c, cv, b, rfl, hcv, e, q⟩ := h
 cases r with
 | cons rx rr =>
  cases rr with
  | cons rt rr =>
   cases rr
   cases rx
   have ec := hcv _ rt
   subst ec
   obtain ⟨hget, _⟩ := I.pin (a, oe) (List.mem_append.mpr (.inl hp))
   obtain ⟨vs, hv⟩ := hf
   have hx : ObjOk X.prog X.w H s.heap dx (.xd fs) := I.hok dx _ hx
   obtain ⟨mA, ⟨od, es, ep, ho, hrest⟩, hr⟩ := hx
   have J : PySem.W.InstAt s.heap a oe D (some od) := by
    obtain ⟨oc, od', oda, osl⟩ := oe
    obtain ⟨h1, h2⟩ := hz
    dsimp only at h1 h2 hv
    subst h1 h2 hv
    exact ⟨hget, rfl, rfl, ho⟩
   exact PySem.W.kia_one (PySem.W.kitx_exc (by obtain ⟨cd, hcd, _⟩ := PySem.W.any_some C.hd; rw [hcd]; rfl) C.hg C.hk C.hs C.ha C.hn C.ht C.hm) I.kIn J e (fun z => nomatch z) fun tk => ⟨.bl b, H, I.kept (t' := tk) fun _ _ z => z, rfl, q⟩
section
variable {X : Cx} {W : WX} {pos p : Pos} {C fld : Str} {a dx : Addr} {tc : List (Str × Bool)} {tt : List (String × Bool)} {x y e : Expr} {ga : M (List Rv)} {ge : M Rv}
theorem de_isF (hx : HotF X C a dx) (T : IsT X.K C tc tt) (hm : X.mg "isinstance" = none) (ha : DA X W [x, y] ga) (hg : Gl X "isinstance" := by exact rfl) (he : starEach [x, y] X.env = (false, eval x X.env) :: starEach [y] X.env := by rfl) (hpl : (backTo pos (starEach [y] X.env)).any (·.1) = false := by rfl) :
  DE X W (.Call (.Name "isinstance" p) [x, y] [] pos) (eB (gIsF a dx tc tt) ga) := by
 obtain ⟨oe, h1, h2, h3⟩ := hx.ex
 exact de_B (call_isF T.ex h2.zc (h3.2.imp fun vs h => h.1) h1) (isF_ok T) hg hm PyProof.Rows.boot_isinstance ha (by decide) (by decide) he hpl
def xfO (a dx : Addr) (fld : Str) : D → Option D
 | .xob b d2 [f] [v] => if b = a ∧ d2 = dx ∧ f = fld then some v else none
 | _ => none
def gXf (a dx : Addr) (fld : Str) (ge : M Rv) : M Rv := do
 let r ← ge
 let d ← peek r
 let v ← ofO (xfO a dx fld d)
 pure (.val v)
theorem de_xf (hx : HotF X C a dx) (T : XfC X.K (He.ga X.K C)) (hno : PySem.W.findIn X.K (.ref (He.ga X.K C)) fld = some none) (he : DE X W e ge) (hb : attributeBase e fld X.env (eval e X.env) = eval e X.env := by rfl) :
  DE X W (.Attribute e fld pos) (gXf a dx fld ge) := by
 obtain ⟨oe, hp, hz, hot⟩ := hx.ex
 refine ⟨⟨fun pins s σ H Q I ⟨c, G, ρ, R, w⟩ => ?_⟩⟩
 refine attr_of hb (thn (he.pe.run pins s σ H (fun x H1 => x = .ref a ∧ ∃ v, H1 dx = some (.xd [(fld, v)]) ∧ Q v H1) I (tg_step R (Same.refl G) w fun r ρ1 v G1 H1 R1 s1 _ k1 w1 => ?_)) fun u s1 hh => ?_)
 · obtain ⟨d, kd, w2⟩ := peek_wp R1 k1 (wpM_bind w1)
   obtain ⟨v2, ev2, w3⟩ := ofO_wp (wpM_bind w2)
   unfold xfO at ev2
   split at ev2
   · rename_i b d2 f v3
     by_cases h : b = a ∧ d2 = dx ∧ f = fld
     · rw [if_pos h] at ev2
       obtain ⟨h1, h2, h3⟩ := h
       subst h1 h2 h3
       cases ev2
       obtain ⟨ev, xs, hx, hl, kx⟩ := Rh.xob kd
       obtain ⟨x0, r0, e0, k0, e1⟩ := kx
       cases e1
       subst e0
       exact ⟨ev, x0, R1.gh _ _ hx, w3 x0 G1 H1 R1 s1 k0⟩
     · rw [if_neg h] at ev2; cases ev2
   · cases ev2
 · obtain ⟨x, H1, I1, rx, ex, v, ea, q⟩ := hh
   subst ex
   obtain rfl : u = Value.ref a := rx
   obtain ⟨ha, _⟩ := I1.pin (a, oe) (List.mem_append_left _ hp)
   obtain ⟨vs, hd, _⟩ := hot.2
   have hx : ObjOk X.prog X.w H1 s1.heap dx (.xd [(fld, v)]) := I1.hok dx _ ea
   obtain ⟨mA, hns, hr⟩ := hx
   obtain ⟨od, ho, hl⟩ := lookIn_ns hns
   obtain ⟨u, hu, ru⟩ := RelO.some_of (v := v) (o := mA fld) (by
    have := hr fld
    have e : ([(fld, v)] : List (Str × V)).lookup fld = some v := by simp [List.lookup]
    rw [e] at this; exact this)
   have J : PySem.W.InstAt s1.heap a oe (He.ga X.K C) (some od) := ⟨ha, hz.1, by unfold PySem.W.notCls; rw [hd] <;> rfl, by rw [hz.2.1]; exact ho⟩
   exact HandSPX.exc_get I1.kIn J T.ga T.gg T.exC (PySem.W.findObj_own T.hdC hno rfl (by rw [hl, hu])) (handed_of ru) ⟨v, H1, I1.tok _, ru, q⟩
end
end Dl
namespace Dl
open PySem L2
open PyProof.Rows hiding St
section
variable {X : Cx} {W : WX} {np i : Nat} {x n : Str} {pos pos' p : Pos} {body suite : List Stmt} {b₀ : Stmt} {fb : MS} {hit : Str → Option Bool} {su : Xn → List S → Option Os} {fsu : Addr → Addr → Str → MS}
theorem ds_tryF (go : Go X W) (hc : Names X x (.ref (He.ga X.K x))) (hit_ok : ∀ c b, hit c = some b → PySem.W.exmOne X.K (.ref (He.ga X.K c)) (.ref (He.ga X.K x)) = some b)
  (hb : ∀ (W' : WX) (pn : List (Addr × Obj)) (xe : Value → Shared → Prop), Go (X.tr pn xe) W' → DL (X.tr pn xe) W' np body fb)
  (hsu : ∀ (a dx : Addr) (oe : Obj) (C : Str) (pn : List (Addr × Obj)), HotF (X.suite a ((a, oe) :: pn)) C a dx → DL (X.suite a ((a, oe) :: pn)) WX0 np (b₀ :: suite) (fsu a dx C))
  (hl : ∀ (a dx : Addr) (e : Xn) (ρ : List S) (o : Os), su e ρ = some o → e.ns ≠ [] ∧ ∃ r ρ', o = .rt r ρ' ∧ fsu a dx e.c (ρ.set i (.val (.xob a dx e.ns e.ds))) = some (.rt r ρ'))
  (hi : X.N[i]? = some n) (hs : X.stack = X.env :: X.outer := by rfl) (hf : X.env.frame = some X.env.locals := by rfl) (hln : X.env.kindOf n = some .local := by rfl) :
  DS X W np (.Try body [.ExceptHandler (some (.Name x p)) (some n) (b₀ :: suite) pos'] [] [] pos) (sTry hit fb su) :=
 ⟨(L2N.ps_try_as (c := .ref (He.ga X.K x)) (i := i) (tb := fun W' => tS X.K W' np fb) (ts := fun a cls d D σ H => ∃ C dx, cls = .ref (He.ga X.K C) ∧ d = some dx ∧ tS X.K WX0 np (fsu a dx C) D σ H) (Wout := W) hs hf go.nd hi hln hc go.tk
   (fun W' pn xe tk po => (hb W' pn xe ⟨tk, po, go.calm, go.nd, go.rm⟩).pss)
   (fun a oe cls d pn hz hd => ⟨fun pins s σ H D I ⟨C, dx, e1, e2, h⟩ => by
    subst e1 e2
    obtain ⟨vs, hv⟩ := hd
    exact (hsu a dx oe C pn ⟨oe, List.mem_cons_self, hz, rfl, vs, hv, hz.2.2 vs hv⟩).pss.run pins s σ H D I h⟩)).weak fun Dn σ H ⟨c, G, ρ, o, hl', R, h, po⟩ => by
  unfold sTry at h
  cases q : fb ρ with
  | none => rw [q] at h; cases h
  | some o' =>
   rw [q] at h
   refine ⟨c, G, ρ, o', hl', R, q, ?_⟩
   cases o' with
   | nx ρ' => cases h; exact po
   | bk ρ' => cases h; exact po
   | ct ρ' => cases h; exact po
   | rt r ρ' => cases h; exact po
   | ex e ρ1 =>
    dsimp only at h
    intro cls d σ' G' H' R' s' xa
    cases qh : hit e.c with
    | none => rw [qh] at h; cases h
    | some b =>
     rw [qh] at h
     obtain ⟨ec, xd⟩ := xa
     subst ec
     refine ⟨b, hit_ok _ _ qh, fun eb a ha => ?_, fun eb => ?_⟩
     · subst eb
       obtain ⟨ec, en, ed⟩ := e
       cases en with
       | nil => exact absurd rfl (hl a a _ ρ1 o h).1
       | cons n0 ns =>
        obtain ⟨dx, fvs, rfl, hg, xs, ef, rl, hln⟩ := xd
        obtain ⟨_, r, ρ', eo, ef2⟩ := hl a dx _ ρ1 o h
        subst eo ef
        exact ⟨ec, dx, rfl, rfl, c, G', _, _, hl', R'.set_val i (v := .ref a) (d := .xob a dx (n0 :: ns) ed) ⟨rfl, xs, hg, hln, rl⟩, ef2, fun v σ2 G2 H2 R2 s2 k2 => po v σ2 G2 H2 R2 (s'.trans s2) k2⟩
     · subst eb
       cases h
       exact po _ d σ' G' H' R' s' ⟨rfl, xd⟩⟩
end
theorem xiB_ok {K : PySem.W.Frag} {d : He.DefD} {file fld : Str} (h : xiB K d file fld = true) (e : fnXi K d = xiVal d) : (∃ fd, XiF K (He.ga K d.at_.1) (He.fAd K d.at_) file d.name d.qual d.params d.body d.scope fld fd ∧
      ∃ (kV doc pm cda ct : Value) (an : Option Addr) (cc : Addr), fd = PySem.W.ksFn d.name d.qual d.params d.body d.scope .none kV doc pm an cda ct cc) ∧
  PySem.W.findIn K (.ref (He.ga K d.at_.1)) "__init__" = some (some (.ref (He.fAd K d.at_))) ∧ PySem.W.typeIn K (.ref (He.fAd K d.at_)) = some (.type "function") ∧ XfC K (He.ga K d.at_.1) ∧ PySem.W.findIn K (.ref (He.ga K d.at_.1)) fld = some none := by
 obtain ⟨h1, h⟩ := He.ba h
 obtain ⟨h2, h⟩ := He.ba h
 obtain ⟨h3, h⟩ := He.ba h
 obtain ⟨h4, h⟩ := He.ba h
 obtain ⟨h5, h⟩ := He.ba h
 obtain ⟨h6, h⟩ := He.ba h
 obtain ⟨h7, h⟩ := He.ba h
 obtain ⟨h8, h⟩ := He.ba h
 obtain ⟨h9, h10⟩ := He.ba h
 refine ⟨?_, He.eqO_ok h2, of_decide_eq_true h3, xfB_ok h10, He.eqO_ok h9⟩
 unfold fnXi at e
 generalize He.fAd K d.at_ = fI at *
 cases q : K.lookup fI with
 | none => rw [q] at h4; cases h4
 | some o =>
  obtain ⟨oc, od, dt, osl⟩ := o
  rw [q] at h4 e
  cases dt with
  | func fd =>
   obtain ⟨n1, n2, n3, n4, n5, n6, n7, n8, n9, n10, n11, n12, n13, n14, n15⟩ := fd
   have e2 : (some (n1, n2, n3, n4, n5, n6, n7.map (fun z => z.1), n15) : Dl.FnX) = (some (d.name, d.qual, d.params, FuncBody.stmts d.body, d.scope, mainGlobals, ["__class__"], builtinsNs) : Dl.FnX) := e
   simp only [Option.some.injEq, Prod.mk.injEq] at e2
   obtain ⟨q1, q2, q3, q4, q5, q6, q7, q8⟩ := e2
   subst q1 q2 q3 q4 q5 q6 q8
   dsimp only at h4
   obtain ⟨c1, h4⟩ := He.ba h4
   obtain ⟨c2, h4⟩ := He.ba h4
   obtain ⟨c3, c4⟩ := He.ba h4
   have e8 : n8 = .none := by
    cases n8 <;> first | rfl | cases c2
   subst e8
   match n7, q7, c3 with
   | [(nm, cc)], q7, c3 =>
    have enm : nm = "__class__" := (List.cons.inj q7).1
    subst enm
    cases qc : K.lookup cc with
    | none => simp only [qc] at c3; cases c3
    | some oc2 =>
     obtain ⟨cl, cld, cdt, csl⟩ := oc2
     simp only [qc] at c3
     split at c3
     · rename_i c' d' C' sl' ec
       cases ec
       have eC := beq_iff_eq.mp c3
       subst eC
       cases n13 with
       | ref cda =>
        dsimp only at c4
        cases qa : K.lookup cda with
        | none => simp only [qa] at c4; cases c4
        | some oa =>
         simp only [qa] at c4
         split at c4
         · rename_i c2' d2' vs sl2 ea
           cases ea
           split at c4
           · rename_i v0 v1 f tf rest ev
             have ef := beq_iff_eq.mp c4
             subst ef
             refine ⟨_, ⟨oexB_ok h1, ⟨oc, od, .none, n9, n10, n11, n14, n12, osl, cc, cda, _, _, _, _, _, _, vs, tf, rfl, q, c1, qa, ?_, qc⟩, of_decide_eq_true h5, He.eqO_ok h6, He.eqO_ok h7, of_decide_eq_true h8, He.eqO_ok h9⟩, ⟨n9, n10, n11, _, n14, n12, cc, rfl⟩⟩
             rw [← Array.getElem?_toList, ev]; rfl
           · cases c4
         · cases c4
       | _ => cases c4
     · cases c3
  | _ => cases h4
end Dl
namespace Dl
open PySem L2
open PyProof.Rows hiding St
theorem DFW.imp {P : Program} {w : World} {K : PySem.W.Frag} {mg : Str → Option Value} {base : Heap} {x : Str} {k np : Nat} {fn fn' : Fn} (F : DFW P w K mg base x k np fn) (h : Fn.le fn' fn) : DFW P w K mg base x k np fn' :=
 let ⟨f, fd, ps, h1, h2, h3, h4⟩ := F.ex
 ⟨fun ss o e => F.len ss o (h _ _ e), f, fd, ps, h1, h2, h3, fun p vs H Q E z => h4.len p vs H Q E (spD_imp h z), fun A outer s H args us vs Q E p hr hot hp e0 b r z => h4.run A outer s H args us vs Q E p hr hot hp e0 b r (spD_imp h z)⟩
theorem dfw_zero {P : Program} {w : World} {K : PySem.W.Frag} {mg : Str → Option Value} {base : Heap} {x : Str} {ps : List Str} {f : Addr} {fd : FuncData} {k np : Nat} (hm : mg x = some (.ref f)) (kp : PySem.W.keepIn K (.ref f) = true) (hb : Binds K fd ps []) : DFW P w K mg base x k np (fun _ => none) :=
 ⟨fun _ _ z => (nomatch z), f, fd, ps, hm, kp, hb, fun _ _ _ _ _ ⟨_, _, _, _, _, _, _, z, _⟩ => (nomatch z), fun _ _ _ _ _ _ _ _ _ _ _ _ _ _ _ _ ⟨_, _, _, _, _, _, _, z, _⟩ => (nomatch z)⟩
structure DFE (P : Program) (w : World) (K : PySem.W.Frag) (mg : Str → Option Value) (base : Heap) (x : Str) (k np : Nat) (C : Str) (fn : Addr → Addr → Fn) : Prop where
 len : ∀ a dx ss o, fn a dx ss = some o → ss.length = np
 ex : ∃ (f : Addr) (fd : FuncData) (ps : List Str), mg x = some (.ref f) ∧ PySem.W.keepIn K (.ref f) = true ∧ Binds K fd ps [] ∧ FnP P w K mg base (L2N.CX P w) k f ps fd (fun p vs H Q E => ∃ dx, L2N.Zn (.ref (He.ga K C)) (some dx) p.2 ∧ spD K np (fn p.1 dx) vs H Q E)
theorem DFE.up {P : Program} {w : World} {K : PySem.W.Frag} {mg : Str → Option Value} {base : Heap} {x C : Str} {j k np : Nat} {fn : Addr → Addr → Fn} (F : DFE P w K mg base x j np C fn) (h : j ≤ k) : DFE P w K mg base x k np C fn :=
 let ⟨f, fd, ps, h1, h2, h3, h4⟩ := F.ex; ⟨F.len, f, fd, ps, h1, h2, h3, h4.len, fun A outer s H args us vs Q E p hr => h4.run A outer s H args us vs Q E p (hr.mono h)⟩
section
variable {X : Cx} {W : WX} {x C : Str} {k np : Nat} {fn : Addr → Addr → Fn} {mu : List Bool} {e : Expr} {es : List Expr} {ga : M (List Rv)} {p pos : Pos} {a dx : Addr}
end
theorem raF_of {P : Program} {w : World} {K : PySem.W.Frag} {mg : Str → Option Value} {base : Heap} {x fld file self par : Str} {d : He.DefD} {k : Nat} (hx : d.at_ = (x, some ("__init__" : Str))) (hm : mg x = some (.ref (He.ga K x))) (h : xiB K d file fld = true) (e : fnXi K d = xiVal d)
  (hb : ∀ (kV doc pm cda ct : Value) (an : Option Addr) (cc : Addr), Binds K (PySem.W.ksFn d.name d.qual d.params d.body d.scope .none kV doc pm an cda ct cc) [self, par] [])
  (walk : ∀ fd, XiF K (He.ga K x) (He.fAd K d.at_) file d.name d.qual d.params d.body d.scope fld fd → FnOk P w K mg base (L2N.CX P w) k (He.fAd K d.at_) fd [self, par] (spXi (He.ga K x) fld)) :
  RaF P w K mg base x fld k ∧ XfC K (He.ga K x) ∧ PySem.W.findIn K (.ref (He.ga K x)) fld = some none := by
 obtain ⟨⟨fd, F, kV, doc, pm, cda, ct, an, cc, efd⟩, iC, tI, xf, nof⟩ := xiB_ok h e
 have e1 : d.at_.1 = x := by rw [hx]
 rw [e1] at F iC xf nof
 refine ⟨⟨hm, F.T, _, fd, self, par, iC, tI, ?_, walk fd F⟩, xf, nof⟩
 rw [efd]
 exact hb kV doc pm cda ct an cc
end Dl
namespace Dl
open PySem L2 PySem.Spec PyProof.Rows
theorem enum1_meets {x : Value} {o : Obj} {Hh : Heap → Prop} (B : Begins x o Hh) :
  Meets (Builtin.«enumerate.__new__» ⟨[.type "enumerate", x], []⟩) (fun _ Rz z => Hh z.heap ∧
   Rz (.ok (.ret (.ref (z.heap.push o).objs.size))) { z with heap := (z.heap.push o).push { cls := .type "enumerate", data := .fields #[.none, .bool false, .ref z.heap.objs.size, rawInt 0, .none, .none] } }) :=
 .of_wp fun prog w A R z h => by
  obtain ⟨hp, gg, dd, tk, os⟩ := z; obtain ⟨h1, h⟩ := h
  have hsub := sub_enumerate
  have q1 : ∀ {A' : Around} {E' Q' : Value → Shared → Prop}, Q' (.ref hp.objs.size) ⟨hp.push o, gg, dd, tk, os⟩ → wpAny (model prog w) A' (pyIter x) Q' E' ⟨hp, gg, dd, tk, os⟩ := fun q => B.iter prog w _ _ ⟨hp, gg, dd, tk, os⟩ _ h1 q
  wp_walk using q1
  refine wpAny_stack_any fun st => wpAny_pure ?_
  split
  · rename_i c _ _ _ _ _
    cases (c == Value.type "enumerate") <;> (wp_walk using q1; exact ⟨_, rfl, h⟩)
  · wp_walk using q1
    exact ⟨_, rfl, h⟩
section
variable {prog : Program} {w : World} {A : Around} {E : Value → Shared → Prop} {s : Shared}
theorem enum1_begins {x : Value} {o : Obj} {Hh : Heap → Prop} {Q : Value → Shared → Prop} (B : Begins x o Hh) (h1 : Hh s.heap)
  (h : ∀ h', IsEnum h' (s.heap.objs.size + 1) s.heap.objs.size 0 .none → h'.get? s.heap.objs.size = some o → (∀ b o', s.heap.get? b = some o' → h'.get? b = some o') → Q (.ref (s.heap.objs.size + 1)) { s with heap := h' }) :
  wpAny (model prog w) A (call (.type "enumerate") [x]) Q E s := by
 refine callType_new F.called_enumerate (by decide) (F.typeCall_enumerate_1 _) (F.newCall_enumerate_1 _) (fun obj => F.args_object_init_2 obj _) F.entry_enumerate_new (enum1_meets B) ⟨h1, ?_⟩
 have sz : (s.heap.push o).objs.size = s.heap.objs.size + 1 := Heap.size_push ..
 show _ ∧ _
 rw [sz]
 have he : IsEnum ((s.heap.push o).push { cls := .type "enumerate", data := .fields #[.none, .bool false, .ref s.heap.objs.size, rawInt 0, .none, .none] }) (s.heap.objs.size + 1) s.heap.objs.size 0 .none := by
  have z := Heap.get?_push_size (s.heap.push o) (o := { cls := .type "enumerate", data := .fields #[.none, .bool false, .ref s.heap.objs.size, rawInt 0, .none, .none] }) rfl
  rw [sz] at z; exact z
 exact ⟨⟨_, he, rfl⟩, h _ he (Heap.get?_push_of_some _ (Heap.get?_push_size _ B.free)) fun b o' y => Heap.get?_push_of_some _ (Heap.get?_push_of_some _ y)⟩
end
theorem enumT_end {prog : Program} {w : World} {A : Around} {E : Value → Shared → Prop} {s : Shared} {e it l : Addr} {i : Nat} {k : Int} {items : Array Value} {old : Value} {Q : Option Value → Shared → Prop} (hh : A.handled = none) (he : IsEnum s.heap e it k old) (hit : s.heap.IsTupleIter it l i) (hl : s.heap.IsTuple l items) (hx : items[i]? = none)
  (hQ : ∀ h', Heap.ExtBut it s.heap h' → Q none { s with heap := h' }) : wpAny (model prog w) A (pyNext (.ref e)) Q E s := by
 have tyE : s.TypeIs (.ref e) "enumerate" := ⟨_, he, rfl⟩
 unfold pyNext
 refine wpAny_bind (wpAny_attempt (wpAny_callSpecial?_slot (name := Str.ofString "__next__") tyE F.slot_enumerate_next (wpAny_call_entry F.slot_enumerate_next tyE F.entry_enumerate_next ?_ (F.args_enumerate_next_1 _))))
 show wpAny _ _ (field (.ref e) 2 >>= _) _ _ _
 refine wpAny_bind (wpAny_field he rfl (x := .ref it) rfl (wpAny_bind (RZ.nextOf_tuple_end hh hit hl hx fun h' z he' ⟨o, ho, hc⟩ => ?_)))
 exact wpAny_bind (wpAny_isInstance (T := "StopIteration") (b := true) ⟨o, ho, hc⟩ isSubtype_stop (wpAny_pure (hQ _ he')))
def IteT (K : PySem.W.Frag) (a : Addr) : It :=
 ⟨fun i H => ∃ (xs : List V) (x : V), SqT K H a xs ∧ xs[i]? = some x, fun i H v H' => ∃ T x, v = .ref T ∧ H T = none ∧ H' = upd H T (.tup [.int (i : Nat), x]) ∧ ∀ xs, SqT K H a xs → xs[i]? = some x, fun i H => ∃ xs : List V, SqT K H a xs ∧ xs.length ≤ i⟩
theorem turn_enumT {P : Program} {w : World} {K : PySem.W.Frag} {elts : List Expr} {kk : Nat} {tpos : Pos} (a e it : Addr) (ha : a ≠ it) (hae : a ≠ e) :
  Turn P w K (.Tuple elts kk tpos) (IteT K a) [e, it] e (fun i h => (∃ old, IsEnum h e it ((i : Nat) : Int) old) ∧ h.IsTupleIter it a i ∧ e ≠ it) where
 mem := by simp
 obj := fun i h st b hb => by
  obtain ⟨⟨old, he⟩, ⟨o, ho, hc, hd⟩, _⟩ := st
  rcases (by simpa using hb : b = e ∨ b = it) with z | z
  · rw [z]; exact ⟨_, he, fun v q => nomatch q⟩
  · rw [z]; exact ⟨o, ho, fun v q => by rw [hd] at q; cases q⟩
 keep := fun i h h' ⟨⟨old, he⟩, hi, hne⟩ k => ⟨⟨old, k e (by simp) _ he⟩, hi.at fun o q => k it (by simp) o q, hne⟩
 item := by
  intro X hP hw hK hc i pins s σ H E I hf st hg
  subst hP hw hK
  obtain ⟨⟨old, he⟩, hit, hne⟩ := st
  obtain ⟨xs, x, hq, hx⟩ := hg
  obtain ⟨its, rv, p, hz⟩ := I.tuple hq
  obtain ⟨u, hu, ru⟩ := rv.get hx
  have hel : e < s.heap.objs.size := Heap.lt_size he
  have hil : it < s.heap.objs.size := by obtain ⟨_, q, _⟩ := hit; exact Heap.lt_size q
  have D := Draws.tuple (prog := X.prog) (w := X.w) (A := X.A.in1) (I.ok.hd hc) it a ha its.toArray
  have hi : i < its.toArray.size := by
   have := (List.getElem?_eq_some_iff.mp hu).1
   simpa using this
  refine wpAny_pyNext_enum_itemD D he ⟨hit, p⟩ hi hne (by simp [hne, Ne.symm hae]) fun y h' tk hy ho hst' hT hsz hk => ?_
  have ey : y = u := by
   have hu' : its.toArray[i]? = some u := by simpa using hu
   rw [hu'] at hy
   exact (Option.some.inj hy).symm
  subst ey
  refine ⟨_, rfl, wpAny_letOwnedTupleGo_enum (s := { s with heap := h', toks := tk + 1 }) ho fun h'' he' sb => ?_⟩
  have hT2 : h''.get? s.heap.objs.size = some { cls := .type "tuple", data := .seq #[.int i tk, y] } := (sb.2 _ (Nat.ne_of_gt hel)).trans hT
  have new : ObjOk X.prog X.w (upd H s.heap.objs.size (.tup [.int (i : Nat), x])) h'' s.heap.objs.size (.tup [.int (i : Nat), x]) :=
   ⟨by show 2 ≤ sizeLine; decide, [.int i tk, y], .cons ⟨_, rfl⟩ (.cons ru .nil), ⟨_, hT2, rfl, _, rfl⟩⟩
  have I1 : Inv X pins σ (upd H s.heap.objs.size (.tup [.int (i : Nat), x])) { s with heap := h'', toks := tk + 1 } :=
   I.turnedNew (ch := [e, it]) (fun b ob hb q => (sb.2 b (fun z => hb (by simp [z]))).trans (hk b ob (fun z => hb (by simp [z])) (fun z => hb (by simp [z])) q)) hf (Nat.le_refl _) new
  refine ⟨.ref s.heap.objs.size, _, I1, rfl, ⟨_, x, rfl, I.hok.fresh (Nat.le_refl _), rfl, fun ys hy => by rw [I.tuple_inj hy hq]; exact hx⟩, ⟨⟨y, ?_⟩, hst'.1.at fun o q => (sb.2 it (Ne.symm hne)).trans q, hne⟩, fun b hb => ?_⟩
  · rw [show ((i + 1 : Nat) : Int) = (i : Int) + 1 by omega]; exact he'
  · have hb' : b < s.heap.objs.size := by
      rcases (by simpa using hb : b = e ∨ b = it) with z | z
      · rw [z]; exact hel
      · rw [z]; exact hil
    rw [upd_ne (Nat.ne_of_lt hb')]
    exact (hf b hb).1
 done := by
  intro X hP hw hK hc i pins s σ H E I hf st hg
  subst hP hw hK
  obtain ⟨⟨old, he⟩, hit, hne⟩ := st
  obtain ⟨xs, hq, hx⟩ := hg
  obtain ⟨its, rv, p, hz⟩ := I.tuple hq
  obtain ⟨f0, f1, f2, f3, f4, f5⟩ := hf it (by simp)
  have hl := rv.length
  have hle : its.length ≤ i := by omega
  exact enumT_end (I.ok.hd hc) he hit p (by simp; omega) fun h' eb => ⟨rfl, I.turned (t' := s.toks) (fun b o hb q => eb b o hb q) f0 f1 f3 f4 f5⟩
 self := fun A i s Q E st h => let ⟨⟨_, he⟩, _⟩ := st; wpAny_pyIter_enum he h
def numD (ds : List D) : List D := ds.zipIdx.map fun p => .tup [.int (p.2 : Nat), p.1]
theorem numD_len (ds : List D) : (numD ds).length = ds.length := by unfold numD; rw [List.length_map, List.length_zipIdx]
theorem numD_get {ds : List D} {i : Nat} {d : D} (h : ds[i]? = some d) : (numD ds)[i]? = some (.tup [.int (i : Nat), d]) := by
 unfold numD
 rw [List.getElem?_map, List.getElem?_zipIdx, h]
 simp
theorem walks_enumT {K : PySem.W.Frag} {G0 : Hp} {a : Addr} {xs : List V} {ds : List D} (h : SqT K G0 a xs) (r : RpL K G0 ds xs) (hz : xs.length ≤ sizeLine) : Walks K G0 (IteT K a) (numD ds) where
 sz := by rw [numD_len, ← r.length]; exact hz
 go := fun {c G H σ ρ i} R s hi => by
  rw [numD_len] at hi
  exact ⟨xs, xs[i]'(by rw [r.length]; exact hi), Same.seqt (s.trans R.gh) h, List.getElem?_eq_getElem _⟩
 yld := fun {c G H H' σ ρ i v} R s ⟨T, x, ev, hT, eH, f⟩ hi => by
  subst ev eH
  obtain ⟨d, q1, q2⟩ := (r.mono s).get' (f xs (Same.seqt (s.trans R.gh) h))
  obtain ⟨G', s', R', k⟩ := R.new_tup (xs := [.int (i : Nat), x]) (ds := [.int (i : Nat), d]) hT ⟨_, [x], rfl, rfl, x, [], rfl, q2, rfl⟩
  exact ⟨_, G', numD_get q1, R', s', k⟩
 stop := fun {c G H σ ρ} R s => ⟨xs, Same.seqt (s.trans R.gh) h, by rw [numD_len, r.length]; exact Nat.le_refl _⟩
theorem walks_enumL {K : PySem.W.Frag} {G0 : Hp} {a : Addr} {xs : List V} {ds : List D} (h : G0 a = some (.lst xs)) (r : RpL K G0 ds xs) (hz : xs.length ≤ sizeLine) : Walks K G0 (Ite K a) (numD ds) where
 sz := by rw [numD_len, ← r.length]; exact hz
 go := fun {c G H σ ρ i} R s hi => by
  rw [numD_len] at hi
  exact ⟨xs, xs[i]'(by rw [r.length]; exact hi), .inl (.inl (R.gh _ _ (s _ _ h))), List.getElem?_eq_getElem _⟩
 yld := fun {c G H H' σ ρ i v} R s ⟨T, x, ev, hT, eH, f⟩ hi => by
  subst ev eH
  obtain ⟨d, q1, q2⟩ := (r.mono s).get' (f xs (.inl (.inl (R.gh _ _ (s _ _ h)))))
  obtain ⟨G', s', R', k⟩ := R.new_tup (xs := [.int (i : Nat), x]) (ds := [.int (i : Nat), d]) hT ⟨_, [x], rfl, rfl, x, [], rfl, q2, rfl⟩
  exact ⟨_, G', numD_get q1, R', s', k⟩
 stop := fun {c G H σ ρ} R s => ⟨xs, .inl (.inl (R.gh _ _ (s _ _ h))), by rw [numD_len, r.length]; exact Nat.le_refl _⟩
def iEnA (K : PySem.W.Frag) (ta : TA) : TI := fun σ H R => ta σ H fun vs H1 => ∃ a xs, vs = [.ref a] ∧ ((SqL K H1 a xs ∧ R (Ite K a) H1) ∨ (SqT K H1 a xs ∧ R (IteT K a) H1))
theorem pi_enumA {X : Cx} {e : Expr} {ta : TA} {p pos tpos : Pos} {elts : List Expr} {kk : Nat} (hg : Gl X "enumerate") (hm : X.mg "enumerate" = none) (ha : PA X [e] ta) (hs : starEach [e] X.env = [(false, eval e X.env)] := by rfl) :
  PI X (.Tuple elts kk tpos) (.Call (.Name "enumerate" p) [e] [] pos) (iEnA X.K ta) := by
 refine ⟨fun pins s σ H R I h => ?_⟩
 refine Call_ (ld_blt I hg hm boot_enumerate (PyProof.Rows.callWith_type1 (thn (ha.run pos pins s σ H _ I h) fun us s1 ⟨vs, H1, I1, r1, a, xs, ex, hq⟩ => ?_) hs rfl))
 subst ex
 obtain ⟨u, rfl, r⟩ := vals1 r1
 cases (show u = Value.ref a from r)
 have young : ∀ b ∈ [s1.heap.objs.size + 1, s1.heap.objs.size], FpOk X pins H1 b := fun b hb => by
  have hle : s1.heap.objs.size ≤ b := by
   rcases (by simpa using hb : b = s1.heap.objs.size + 1 ∨ b = s1.heap.objs.size) with z | z
   · rw [z]; exact Nat.le_add_right _ _
   · rw [z]; exact Nat.le_refl _
  exact I1.fpOk hle (I1.hok.fresh hle)
 rcases hq with ⟨hq, q⟩ | ⟨hq, q⟩
 · obtain ⟨its, rv, pl, hz⟩ := I1.list hq
   exact call_enumerate_list pl.isList fun h' he hit hsz hk => wpAny_pyIter_enum he ⟨_, [s1.heap.objs.size + 1, s1.heap.objs.size], _, _, H1, rfl, I1.kept (t' := s1.toks) hk, turn_enum a (s1.heap.objs.size + 1) s1.heap.objs.size, ⟨⟨.none, he⟩, hit, Nat.succ_ne_self _⟩, young, q⟩
 · obtain ⟨its, rv, pt, hz⟩ := I1.tuple hq
   have hal : a < s1.heap.objs.size := by obtain ⟨o, ho, _⟩ := id pt; exact Heap.lt_size ho
   exact enum1_begins (begins_tuple a its.toArray) pt fun h' he hit hk => wpAny_pyIter_enum he ⟨_, [s1.heap.objs.size + 1, s1.heap.objs.size], _, _, H1, rfl, I1.kept (t' := s1.toks) hk, turn_enumT a (s1.heap.objs.size + 1) s1.heap.objs.size (Nat.ne_of_lt hal) (Nat.ne_of_lt (Nat.lt_succ_of_lt hal)), ⟨⟨.none, he⟩, ⟨_, hit, rfl, rfl⟩, Nat.succ_ne_self _⟩, young, q⟩
def dEnum : List D → Option (List D)
 | [.lst ds] => if ds.length ≤ 16777216 then some (numD ds) else none
 | [.tup ds] => if ds.length ≤ 16777216 then some (numD ds) else none
 | _ => none
def iEnu (ga : M (List Rv)) : M (List D) := do
 let rs ← ga
 let ds ← toVs rs
 ofO (dEnum ds)
theorem di_enum {X : Cx} {W : WX} {e : Expr} {ga : M (List Rv)} {p pos tpos : Pos} {elts : List Expr} {kk : Nat} (hm : X.mg "enumerate" = none) (ha : DA X W [e] ga) (hg : Gl X "enumerate" := by exact rfl) (hs : starEach [e] X.env = [(false, eval e X.env)] := by rfl) :
  DI X W (.Tuple elts kk tpos) (.Call (.Name "enumerate" p) [e] [] pos) (iEnu ga) :=
 ⟨(pi_enumA hg hm ha.pa hs).weak fun σ H R ⟨c, G, ρ, Rs, w⟩ => by
  refine tg_step Rs (Same.refl G) w fun rs ρ1 vs G1 H1 R1 s1 _ k1 w1 => ?_
  obtain ⟨ds, G2, ρ2, s2, R2, kd, w2⟩ := toVs_wp R1 k1 (wpM_bind w1)
  obtain ⟨q, eq, w3⟩ := ofO_wp w2
  unfold dEnum at eq
  split at eq
  · rename_i xs
    by_cases hz : xs.length ≤ 16777216
    · rw [if_pos hz] at eq
      cases eq
      obtain ⟨x, r, rfl, ⟨a1, ys, rfl, h1, h2⟩, rfl⟩ := kd
      exact ⟨a1, ys, rfl, .inl ⟨.inl (.inl (R2.gh _ _ h1)), w3 _ G2 H1 R2 (s1.trans s2) (walks_enumL h1 h2 (by rw [h2.length, PySem.sizeLine_eq]; omega))⟩⟩
    · rw [if_neg hz] at eq; cases eq
  · rename_i xs
    by_cases hz : xs.length ≤ 16777216
    · rw [if_pos hz] at eq
      cases eq
      obtain ⟨x, r, rfl, ⟨a1, ys, rfl, h1, h2⟩, rfl⟩ := kd
      exact ⟨a1, ys, rfl, .inr ⟨Same.seqt R2.gh h1, w3 _ G2 H1 R2 (s1.trans s2) (walks_enumT h1 h2 (by rw [h2.length, PySem.sizeLine_eq]; omega))⟩⟩
    · rw [if_neg hz] at eq; cases eq
  · cases eq⟩
end Dl
namespace Dl
open PySem L2
def frz1 (i : Nat) (s : Option S) (ρ : List S) : List S := match s with
 | some (.own d) => ρ.set i (.val d)
 | _ => ρ
def nrm : List (Nat × Bool) → List S → List S
 | [], ρ => ρ
 | (i, true) :: l, ρ => nrm l (ρ.set i .no)
 | (i, false) :: l, ρ => nrm l (frz1 i ρ[i]? ρ)
def kil : List Nat → List S → List S
 | [], ρ => ρ
 | i :: l, ρ => kil l (ρ.set i .no)
def aftO (l : List (Nat × Bool)) : Os → Os
 | .nx ρ => .nx (nrm l ρ)
 | .bk ρ => .bk (nrm l ρ)
 | .ct ρ => .ct (nrm l ρ)
 | o => o
def sAft (l : List (Nat × Bool)) (f : MS) : MS := fun ρ => (f ρ).map (aftO l)
def sFore (l : List (Nat × Bool)) (f : MS) : MS := fun ρ => f (nrm l ρ)
def retO (l : List Nat) : Os → Os
 | .rt r ρ => .rt r (kil l ρ)
 | .ex e ρ => .ex e (kil l ρ)
 | o => o
section
variable {K : PySem.W.Frag} {c : Cn} {G H : Hp} {σ : L2.St} {ρ : List S}
theorem Rst.nrm (R : Rst K c G H σ ρ) : ∀ (l : List (Nat × Bool)), ∃ G', Same G G' ∧ Rst K c G' H σ (Dl.nrm l ρ) := by
 intro l
 induction l generalizing G ρ with
 | nil => exact ⟨G, Same.refl G, R⟩
 | cons p l ih =>
  obtain ⟨i, b⟩ := p
  cases b with
  | true => exact ih (R.set_no i)
  | false =>
   show ∃ G', Same G G' ∧ Rst K c G' H σ (Dl.nrm l (frz1 i ρ[i]? ρ))
   cases q : ρ[i]? with
   | none => exact ih R
   | some s =>
    cases s with
    | no => exact ih R
    | val d => exact ih R
    | own d =>
     obtain ⟨v, G1, _, s1, R1, _⟩ := R.freeze q
     obtain ⟨G2, s2, R2⟩ := ih R1
     exact ⟨G2, s1.trans s2, R2⟩
theorem kil_get : ∀ {l : List Nat} {ρ : List S} {j : Nat} {s : S}, (kil l ρ)[j]? = some s → s ≠ .no → ρ[j]? = some s
 | [], _, _, _, h, _ => h
 | i :: l, ρ, j, s, h, n => by
  have h := kil_get (l := l) h n
  rcases set_cases h with ⟨_, _, e⟩ | ⟨_, h⟩
  · exact absurd e n
  · exact h
theorem Rst.kil (R : Rst K c G H σ ρ) : ∀ (l : List Nat), Rst K c G H σ (Dl.kil l ρ) := by
 intro l
 induction l generalizing ρ with
 | nil => exact R
 | cons i l ih => exact ih (R.set_no i)
theorem RpR.kil {v : V} {r : Rv} {l : List Nat} (na : ∀ i, r ≠ .ali i) (h : RpR K c G H σ ρ v r) : RpR K c G H σ (Dl.kil l ρ) v r := by
 cases r with
 | val d => exact h
 | ali i => exact absurd rfl (na i)
 | own d =>
  obtain ⟨a, h1, h2, h3, h4, h5⟩ := h
  exact ⟨a, h1, h2, h3, h4, fun i e q => h5 i e (kil_get q (by intro z; cases z))⟩
end
section
variable {X : Cx} {W : WX} {np : Nat} {st : Stmt} {sts : List Stmt} {f : MS} {e : Expr} {fa : M Rv} {pos : Pos}
theorem tS_aft {K : PySem.W.Frag} {l : List (Nat × Bool)} {Dn : Ends} {σ : L2.St} {H : Hp} (h : tS K W np (sAft l f) Dn σ H) : tS K W np f Dn σ H := by
 obtain ⟨c, G, ρ, o, hl, R, h, po⟩ := h
 obtain ⟨o1, h1, h2⟩ := Option.map_eq_some_iff.mp (show (f ρ).map (aftO l) = some o from h)
 subst h2
 refine ⟨c, G, ρ, o1, hl, R, h1, ?_⟩
 cases o1 with
 | nx ρ1 => exact fun σ' G' H' R' s' => let ⟨G2, s2, R2⟩ := R'.nrm l; po σ' G2 H' R2 (s'.trans s2)
 | bk ρ1 => exact fun σ' G' H' R' s' => let ⟨G2, s2, R2⟩ := R'.nrm l; po σ' G2 H' R2 (s'.trans s2)
 | ct ρ1 => exact fun σ' G' H' R' s' => let ⟨G2, s2, R2⟩ := R'.nrm l; po σ' G2 H' R2 (s'.trans s2)
 | rt r ρ1 => exact po
 | ex e ρ1 => exact po
def noAli1 : Os → Bool
 | .rt (.ali _) _ => false
 | _ => true
def sRtA (l : List Nat) (f : MS) : MS := fun ρ => (f ρ).bind fun o => if noAli1 o = true then some (retO l o) else none
theorem tS_rtA {K : PySem.W.Frag} {l : List Nat} {Dn : Ends} {σ : L2.St} {H : Hp} (h : tS K W np (sRtA l f) Dn σ H) : tS K W np f Dn σ H := by
 obtain ⟨c, G, ρ, o, hl, R, h, po⟩ := h
 obtain ⟨o1, h1, h2⟩ := Option.bind_eq_some_iff.mp (show (f ρ).bind _ = some o from h)
 by_cases na : noAli1 o1 = true
 · rw [if_pos na] at h2
   cases h2
   refine ⟨c, G, ρ, o1, hl, R, h1, ?_⟩
   cases o1 with
   | nx ρ1 => exact po
   | bk ρ1 => exact po
   | ct ρ1 => exact po
   | rt r ρ1 => exact fun v σ' G' H' R' s' k => po v σ' G' H' (R'.kil l) s' (k.kil fun i z => by subst z; cases na)
   | ex e ρ1 => exact fun cls d σ' G' H' R' s' x => po cls d σ' G' H' (R'.kil l) s' x
 · rw [if_neg na] at h2; cases h2
theorem ds_aft (l : List (Nat × Bool)) (h : DS X W np st f) : DS X W np st (sAft l f) := ⟨h.ps.weak fun _ _ _ q => tS_aft q⟩
theorem dl_aft (l : List (Nat × Bool)) (h : DL X W np sts f) : DL X W np sts (sAft l f) := ⟨h.pss.weak fun _ _ _ q => tS_aft q⟩
theorem ds_rtA (l : List Nat) (h : DS X W np st f) : DS X W np st (sRtA l f) := ⟨h.ps.weak fun _ _ _ q => tS_rtA q⟩
def sFz (i : Nat) (f : MS) : MS := sAft [(i, false)] f
theorem ds_fz (i : Nat) (h : DS X W np st f) : DS X W np st (sFz i f) := ds_aft _ h
def eFrz (fa : M Rv) : M Rv := do
 let r ← fa
 let d ← toV r
 pure (.val d)
end
end Dl
namespace Tl
open PySem Dl
open L2 (ixN atI)
theorem ob_some {α β : Type} (a : α) (f : α → Option β) : (some a).bind f = f a := rfl
theorem ob_none {α β : Type} (f : α → Option β) : (none : Option α).bind f = none := rfl
theorem ob_assoc {α β γ : Type} (o : Option α) (f : α → Option β) (g : β → Option γ) : (o.bind f).bind g = o.bind fun a => (f a).bind g := by cases o <;> rfl
theorem om_eq {α β : Type} (o : Option α) (f : α → β) : o.map f = o.bind fun a => some (f a) := by cases o <;> rfl
theorem ob_ite {α β : Type} (c : Prop) [Decidable c] (a b : Option α) (f : α → Option β) : (if c then a else b).bind f = if c then a.bind f else b.bind f := by split <;> rfl
def gz (n : Nat) : Option Unit := if n ≤ sizeLine then some () else none
def gb (c : Bool) : Option Unit := if c = true then some () else none
theorem sz_big : (100000 : Nat) ≤ sizeLine := by rw [PySem.sizeLine_eq]; decide
theorem gz_small {n : Nat} (h : n ≤ 1000) : gz n = some () := if_pos (by have := sz_big; omega)
theorem gb_true : gb true = some () := rfl
theorem tt_true : (true = true) = True := eq_self true
theorem ft_false : (false = true) = False := eq_false Bool.false_ne_true
theorem ite_T {α : Type} (a b : α) : (if True then a else b) = a := rfl
theorem ite_F {α : Type} (a b : α) : (if False then a else b) = b := rfl
theorem ite_fun {α β : Type} (c : Prop) [Decidable c] (f g : α → β) (a : α) : (if c then f else g) a = if c then f a else g a := by split <;> rfl
theorem b_not_t : (!true) = false := rfl
theorem b_not_f : (!false) = true := rfl
theorem b_at (a : Bool) : (true && a) = a := rfl
theorem b_af (a : Bool) : (false && a) = false := rfl
theorem b_ot (a : Bool) : (true || a) = true := rfl
theorem b_of (a : Bool) : (false || a) = a := rfl
theorem b_ta (a : Bool) : (a && true) = a := Bool.and_true a
theorem b_fa (a : Bool) : (a && false) = false := Bool.and_false a
theorem g_zero {α : Type} (a : α) (l : List α) : (a :: l)[0]? = some a := rfl
theorem g_succ {α : Type} (a : α) (l : List α) (i : Nat) : (a :: l)[i + 1]? = l[i]? := rfl
theorem s_zero {α : Type} (a b : α) (l : List α) : (a :: l).set 0 b = b :: l := rfl
theorem s_succ {α : Type} (a b : α) (l : List α) (i : Nat) : (a :: l).set (i + 1) b = a :: l.set i b := rfl
theorem gd_zero {α : Type} (a b : α) (l : List α) : (a :: l).getD 0 b = a := rfl
theorem gd_succ {α : Type} (a b : α) (l : List α) (i : Nat) : (a :: l).getD (i + 1) b = l.getD i b := rfl
theorem a_cons {α : Type} (a : α) (l m : List α) : (a :: l) ++ m = a :: (l ++ m) := rfl
theorem a_nil {α : Type} (m : List α) : ([] : List α) ++ m = m := rfl
theorem a_nil2 {α : Type} (m : List α) : m ++ [] = m := List.append_nil m
theorem m_cons {α β : Type} (f : α → β) (a : α) (l : List α) : (a :: l).map f = f a :: l.map f := rfl
theorem m_nil {α β : Type} (f : α → β) : ([] : List α).map f = [] := rfl
theorem m_app {α β : Type} (f : α → β) (l m : List α) : (l ++ m).map f = l.map f ++ m.map f := List.map_append
theorem m_map {α β γ : Type} (f : α → β) (g : β → γ) (l : List α) : (l.map f).map g = l.map fun a => g (f a) := List.map_map
theorem m_idf {α : Type} (l : List α) : l.map (fun x => x) = l := List.map_id' l
theorem l_cons {α : Type} (a : α) (l : List α) : (a :: l).length = l.length + 1 := rfl
theorem l_nil {α : Type} : ([] : List α).length = 0 := rfl
theorem l_map {α β : Type} (f : α → β) (l : List α) : (l.map f).length = l.length := List.length_map _
theorem l_app {α : Type} (l m : List α) : (l ++ m).length = l.length + m.length := List.length_append
theorem e_map {α β : Type} (f : α → β) (l : List α) : (l.map f).isEmpty = l.isEmpty := by cases l <;> rfl
theorem e_cons {α : Type} (a : α) (l : List α) : (a :: l).isEmpty = false := rfl
theorem e_nil {α : Type} : ([] : List α).isEmpty = true := rfl
theorem r_zero {α : Type} (a : α) : List.replicate 0 a = [] := rfl
theorem r_succ {α : Type} (n : Nat) (a : α) : List.replicate (n + 1) a = a :: List.replicate n a := rfl
theorem tl_cons {α : Type} (a : α) (l : List α) : (a :: l).tail = l := rfl
theorem tl_nil {α : Type} : ([] : List α).tail = [] := rfl
theorem any_cons' {α : Type} (p : α → Bool) (a : α) (l : List α) : (a :: l).any p = (p a || l.any p) := rfl
theorem any_nil' {α : Type} (p : α → Bool) : ([] : List α).any p = false := rfl
theorem all_cons' {α : Type} (p : α → Bool) (a : α) (l : List α) : (a :: l).all p = (p a && l.all p) := rfl
theorem all_nil' {α : Type} (p : α → Bool) : ([] : List α).all p = true := rfl
theorem mem_one {α : Type} (a : α) : (a ∈ [a]) = True := eq_true (List.mem_singleton.mpr rfl)
theorem eqs_self {α : Type} (a : α) : (a = a) = True := eq_self a
theorem tt_and (p : Prop) : (True ∧ p) = p := true_and p
def cps {α γ : Type} (f : M α) (ρ : List S) (kx : Xn → List S → Option γ) (k : α → List S → Option γ) : Option γ := match f ρ with
 | some (.ok a ρ') => k a ρ'
 | some (.ex e ρ') => kx e ρ'
 | none => none
section
variable {α β γ : Type} {ρ : List S} {kx : Xn → List S → Option γ}
theorem cps_bind (f : M α) (g : α → M β) (k : β → List S → Option γ) : cps (f >>= g) ρ kx k = cps f ρ kx fun a ρ1 => cps (g a) ρ1 kx k := by
 unfold cps
 rw [bind_eq]
 cases f ρ with
 | none => rfl
 | some o => cases o <;> rfl
theorem cps_pure (a : α) (k : α → List S → Option γ) : cps (pure a) ρ kx k = k a ρ := rfl
theorem cps_fail (k : α → List S → Option γ) : cps M.fail ρ kx k = none := rfl
theorem cps_ofO (o : Option α) (k : α → List S → Option γ) : cps (ofO o) ρ kx k = o.bind fun a => k a ρ := by
 unfold cps ofO
 cases o <;> rfl
theorem cps_ite (c : Prop) [Decidable c] (f g : M α) (k : α → List S → Option γ) : cps (if c then f else g) ρ kx k = if c then cps f ρ kx k else cps g ρ kx k := by split <;> rfl
def varK (i : Nat) (ρ : List S) (k : Rv → List S → Option γ) : Option S → Option γ
 | some (.val d) => k (.val d) ρ
 | some (.own _) => k (.ali i) ρ
 | _ => none
theorem cps_var (i : Nat) (k : Rv → List S → Option γ) : cps (eVar i) ρ kx k = varK i ρ k ρ[i]? := by
 unfold cps eVar varK
 cases ρ[i]? with
 | none => rfl
 | some s => cases s <;> rfl
theorem varK_v (i : Nat) (k : Rv → List S → Option γ) (d : D) : varK i ρ k (some (.val d)) = k (.val d) ρ := rfl
theorem varK_o (i : Nat) (k : Rv → List S → Option γ) (d : D) : varK i ρ k (some (.own d)) = k (.ali i) ρ := rfl
theorem cps_C (d : D) (k : Rv → List S → Option γ) : cps (eC d) ρ kx k = k (.val d) ρ := rfl
theorem set_v (d : D) : Dl.settle (.val d) = .val d := rfl
theorem set_o (d : D) : Dl.settle (.own d) = .val d := rfl
theorem set_a (i : Nat) : Dl.settle (.ali i) = .ali i := rfl
def peekK (ρ : List S) (k : D → List S → Option γ) : Option S → Option γ
 | some (.val d) => k d ρ
 | some (.own d) => k d ρ
 | _ => none
theorem cps_peek_v (d : D) (k : D → List S → Option γ) : cps (peek (.val d)) ρ kx k = k d ρ := rfl
theorem cps_peek_o (d : D) (k : D → List S → Option γ) : cps (peek (.own d)) ρ kx k = k d ρ := rfl
theorem cps_peek_a (i : Nat) (k : D → List S → Option γ) : cps (peek (.ali i)) ρ kx k = peekK ρ k ρ[i]? := by
 unfold cps peek peekK
 dsimp only
 all_goals cases ρ[i]? with
 | none => rfl
 | some s => cases s <;> rfl
theorem peekK_v (k : D → List S → Option γ) (d : D) : peekK ρ k (some (.val d)) = k d ρ := rfl
theorem peekK_o (k : D → List S → Option γ) (d : D) : peekK ρ k (some (.own d)) = k d ρ := rfl
def toVK (i : Nat) (ρ : List S) (k : D → List S → Option γ) : Option S → Option γ
 | some (.val d) => k d ρ
 | some (.own d) => k d (ρ.set i (.val d))
 | _ => none
theorem cps_toV_v (d : D) (k : D → List S → Option γ) : cps (toV (.val d)) ρ kx k = k d ρ := rfl
theorem cps_toV_o (d : D) (k : D → List S → Option γ) : cps (toV (.own d)) ρ kx k = k d ρ := rfl
theorem cps_toV_a (i : Nat) (k : D → List S → Option γ) : cps (toV (.ali i)) ρ kx k = toVK i ρ k ρ[i]? := by
 unfold cps toV toVK
 dsimp only
 all_goals cases ρ[i]? with
 | none => rfl
 | some s => cases s <;> rfl
theorem toVK_v (i : Nat) (k : D → List S → Option γ) (d : D) : toVK i ρ k (some (.val d)) = k d ρ := rfl
theorem toVK_o (i : Nat) (k : D → List S → Option γ) (d : D) : toVK i ρ k (some (.own d)) = k d (ρ.set i (.val d)) := rfl
theorem peeks_n : peeks [] = pure [] := rfl
theorem peeks_c (r : Rv) (rs : List Rv) : peeks (r :: rs) = (peek r >>= fun d => peeks rs >>= fun ds => pure (d :: ds)) := rfl
theorem toVs_n : toVs [] = pure [] := rfl
theorem toVs_c (r : Rv) (rs : List Rv) : toVs (r :: rs) = (toV r >>= fun d => toVs rs >>= fun ds => pure (d :: ds)) := rfl
theorem toVs_vals (ds : List D) (rs : List Rv) (k : List D → List S → Option γ) : cps (toVs (ds.map Rv.val ++ rs)) ρ kx k = cps (toVs rs) ρ kx fun es => k (ds ++ es) := by
 induction ds generalizing k with
 | nil => rfl
 | cons d ds ih =>
  rw [List.map_cons, List.cons_append, toVs_c, cps_bind, cps_toV_v, cps_bind, ih]; rfl
theorem toVs_vals0 (ds : List D) (k : List D → List S → Option γ) : cps (toVs (ds.map Rv.val)) ρ kx k = k ds ρ := by
 have h := toVs_vals (ρ := ρ) (kx := kx) ds [] k
 rw [List.append_nil, toVs_n, cps_pure, List.append_nil] at h; exact h
theorem toVs_mv {α : Type} (e : α → D) (xs : List α) (rs : List Rv) (k : List D → List S → Option γ) : cps (toVs (xs.map (fun x => Rv.val (e x)) ++ rs)) ρ kx k = cps (toVs rs) ρ kx fun es => k (xs.map e ++ es) := by
 have h := toVs_vals (ρ := ρ) (kx := kx) (xs.map e) rs k
 rw [List.map_map] at h; exact h
theorem toVs_mv0 {α : Type} (e : α → D) (xs : List α) (k : List D → List S → Option γ) : cps (toVs (xs.map (fun x => Rv.val (e x)))) ρ kx k = k (xs.map e) ρ := by
 have h := toVs_vals0 (ρ := ρ) (kx := kx) (xs.map e) k
 rw [List.map_map] at h; exact h
variable {fa fb : M Rv} {ga gb' : M Bool} {la : M (List Rv)} {g : D → D → Option Rv}
theorem cps_bin (k : Rv → List S → Option γ) : cps (mBin g fa fb) ρ kx k = cps fa ρ kx fun x ρ1 => cps fb ρ1 kx fun y ρ2 => cps (peek (Dl.settle x)) ρ2 kx fun d ρ3 => cps (peek y) ρ3 kx fun e ρ4 => (g d e).bind fun r => k r ρ4 := by
 unfold mBin; simp only [Tl.ob_some, Tl.ob_none, Tl.ob_assoc, Tl.om_eq, Tl.ob_ite, Tl.gz_small, Tl.gb_true, Tl.tt_true, Tl.ft_false, Tl.ite_T, Tl.ite_F, Tl.ite_fun, Tl.b_not_t, Tl.b_not_f, Tl.b_at, Tl.b_af, Tl.b_ot, Tl.b_of, Tl.b_ta, Tl.b_fa, Tl.g_zero, Tl.g_succ, Tl.s_zero, Tl.s_succ, Tl.gd_zero, Tl.gd_succ, Tl.a_cons, Tl.a_nil, Tl.a_nil2, Tl.m_cons, Tl.m_nil, Tl.m_app, Tl.m_map, Tl.m_idf, Tl.l_cons, Tl.l_nil, Tl.l_map, Tl.l_app, Tl.e_map, Tl.e_cons, Tl.e_nil, Tl.r_zero, Tl.r_succ, Tl.tl_cons, Tl.tl_nil, Tl.any_cons', Tl.any_nil', Tl.all_cons', Tl.all_nil', Tl.mem_one, Tl.eqs_self, Tl.tt_and, Tl.cps_bind, Tl.cps_pure, Tl.cps_fail, Tl.cps_ofO, Tl.cps_ite, Tl.cps_var, Tl.varK_v, Tl.varK_o, Tl.cps_C, Tl.set_v, Tl.set_o, Tl.set_a, Tl.cps_peek_v, Tl.cps_peek_o, Tl.cps_peek_a, Tl.peekK_v, Tl.peekK_o, Tl.cps_toV_v, Tl.cps_toV_o, Tl.cps_toV_a, Tl.toVK_v, Tl.toVK_o, Tl.peeks_n, Tl.peeks_c, Tl.toVs_n, Tl.toVs_c, Tl.toVs_vals, Tl.toVs_vals0, Tl.toVs_mv, Tl.toVs_mv0, reduceIte, Nat.reduceAdd, Nat.reduceSub, Nat.reduceMul, Nat.reduceLT, Nat.reduceGT, Nat.reduceLeDiff, Nat.reduceEqDiff, Nat.reduceBEq, Nat.reduceBNe, Int.reduceNeg, Int.reduceAdd, Int.reduceSub, Int.reduceMul, Int.reduceLT, Int.reduceLE, Int.reduceGT, Int.reduceGE, Int.reduceEq, Int.reduceNe, Int.reduceBEq, Int.reduceBNe, Int.reducePow]
theorem cps_aNil (k : List Rv → List S → Option γ) : cps aNil ρ kx k = k [] ρ := rfl
theorem cps_aCons (k : List Rv → List S → Option γ) : cps (aCons fa la) ρ kx k = cps fa ρ kx fun r ρ1 => cps la ρ1 kx fun rs ρ2 => k (Dl.settle r :: rs) ρ2 := by
 unfold aCons; simp only [Tl.ob_some, Tl.ob_none, Tl.ob_assoc, Tl.om_eq, Tl.ob_ite, Tl.gz_small, Tl.gb_true, Tl.tt_true, Tl.ft_false, Tl.ite_T, Tl.ite_F, Tl.ite_fun, Tl.b_not_t, Tl.b_not_f, Tl.b_at, Tl.b_af, Tl.b_ot, Tl.b_of, Tl.b_ta, Tl.b_fa, Tl.g_zero, Tl.g_succ, Tl.s_zero, Tl.s_succ, Tl.gd_zero, Tl.gd_succ, Tl.a_cons, Tl.a_nil, Tl.a_nil2, Tl.m_cons, Tl.m_nil, Tl.m_app, Tl.m_map, Tl.m_idf, Tl.l_cons, Tl.l_nil, Tl.l_map, Tl.l_app, Tl.e_map, Tl.e_cons, Tl.e_nil, Tl.r_zero, Tl.r_succ, Tl.tl_cons, Tl.tl_nil, Tl.any_cons', Tl.any_nil', Tl.all_cons', Tl.all_nil', Tl.mem_one, Tl.eqs_self, Tl.tt_and, Tl.cps_bind, Tl.cps_pure, Tl.cps_fail, Tl.cps_ofO, Tl.cps_ite, Tl.cps_var, Tl.varK_v, Tl.varK_o, Tl.cps_C, Tl.set_v, Tl.set_o, Tl.set_a, Tl.cps_peek_v, Tl.cps_peek_o, Tl.cps_peek_a, Tl.peekK_v, Tl.peekK_o, Tl.cps_toV_v, Tl.cps_toV_o, Tl.cps_toV_a, Tl.toVK_v, Tl.toVK_o, Tl.peeks_n, Tl.peeks_c, Tl.toVs_n, Tl.toVs_c, Tl.toVs_vals, Tl.toVs_vals0, Tl.toVs_mv, Tl.toVs_mv0, Tl.cps_bin, Tl.cps_aNil, reduceIte, Nat.reduceAdd, Nat.reduceSub, Nat.reduceMul, Nat.reduceLT, Nat.reduceGT, Nat.reduceLeDiff, Nat.reduceEqDiff, Nat.reduceBEq, Nat.reduceBNe, Int.reduceNeg, Int.reduceAdd, Int.reduceSub, Int.reduceMul, Int.reduceLT, Int.reduceLE, Int.reduceGT, Int.reduceGE, Int.reduceEq, Int.reduceNe, Int.reduceBEq, Int.reduceBNe, Int.reducePow]
theorem it_l (ds : List D) : items (.lst ds) = some ds := rfl
theorem it_t (ds : List D) : items (.tup ds) = some ds := rfl
theorem cps_aStar (k : List Rv → List S → Option γ) : cps (aStar fa la) ρ kx k = cps fa ρ kx fun r ρ1 => cps (peek r) ρ1 kx fun d ρ2 => (items d).bind fun ds => cps la ρ2 kx fun rs ρ3 => k (ds.map Rv.val ++ rs) ρ3 := by
 unfold aStar; simp only [cps_bind]
 congr 1; funext r ρ1; congr 1; funext d ρ2
 cases items d with
 | none => rfl
 | some ds => simp only [Tl.ob_some, Tl.ob_none, Tl.ob_assoc, Tl.om_eq, Tl.ob_ite, Tl.gz_small, Tl.gb_true, Tl.tt_true, Tl.ft_false, Tl.ite_T, Tl.ite_F, Tl.ite_fun, Tl.b_not_t, Tl.b_not_f, Tl.b_at, Tl.b_af, Tl.b_ot, Tl.b_of, Tl.b_ta, Tl.b_fa, Tl.g_zero, Tl.g_succ, Tl.s_zero, Tl.s_succ, Tl.gd_zero, Tl.gd_succ, Tl.a_cons, Tl.a_nil, Tl.a_nil2, Tl.m_cons, Tl.m_nil, Tl.m_app, Tl.m_map, Tl.m_idf, Tl.l_cons, Tl.l_nil, Tl.l_map, Tl.l_app, Tl.e_map, Tl.e_cons, Tl.e_nil, Tl.r_zero, Tl.r_succ, Tl.tl_cons, Tl.tl_nil, Tl.any_cons', Tl.any_nil', Tl.all_cons', Tl.all_nil', Tl.mem_one, Tl.eqs_self, Tl.tt_and, Tl.cps_bind, Tl.cps_pure, Tl.cps_fail, Tl.cps_ofO, Tl.cps_ite, Tl.cps_var, Tl.varK_v, Tl.varK_o, Tl.cps_C, Tl.set_v, Tl.set_o, Tl.set_a, Tl.cps_peek_v, Tl.cps_peek_o, Tl.cps_peek_a, Tl.peekK_v, Tl.peekK_o, Tl.cps_toV_v, Tl.cps_toV_o, Tl.cps_toV_a, Tl.toVK_v, Tl.toVK_o, Tl.peeks_n, Tl.peeks_c, Tl.toVs_n, Tl.toVs_c, Tl.toVs_vals, Tl.toVs_vals0, Tl.toVs_mv, Tl.toVs_mv0, Tl.cps_bin, Tl.cps_aNil, Tl.cps_aCons, Tl.it_l, Tl.it_t, reduceIte, Nat.reduceAdd, Nat.reduceSub, Nat.reduceMul, Nat.reduceLT, Nat.reduceGT, Nat.reduceLeDiff, Nat.reduceEqDiff, Nat.reduceBEq, Nat.reduceBNe, Int.reduceNeg, Int.reduceAdd, Int.reduceSub, Int.reduceMul, Int.reduceLT, Int.reduceLE, Int.reduceGT, Int.reduceGE, Int.reduceEq, Int.reduceNe, Int.reduceBEq, Int.reduceBNe, Int.reducePow]
theorem cps_eB (g : List D → Option Rv) (k : Rv → List S → Option γ) : cps (eB g la) ρ kx k = cps la ρ kx fun rs ρ1 => cps (peeks rs) ρ1 kx fun ds ρ2 => (g ds).bind fun r => k r ρ2 := by
 unfold eB; simp only [Tl.ob_some, Tl.ob_none, Tl.ob_assoc, Tl.om_eq, Tl.ob_ite, Tl.gz_small, Tl.gb_true, Tl.tt_true, Tl.ft_false, Tl.ite_T, Tl.ite_F, Tl.ite_fun, Tl.b_not_t, Tl.b_not_f, Tl.b_at, Tl.b_af, Tl.b_ot, Tl.b_of, Tl.b_ta, Tl.b_fa, Tl.g_zero, Tl.g_succ, Tl.s_zero, Tl.s_succ, Tl.gd_zero, Tl.gd_succ, Tl.a_cons, Tl.a_nil, Tl.a_nil2, Tl.m_cons, Tl.m_nil, Tl.m_app, Tl.m_map, Tl.m_idf, Tl.l_cons, Tl.l_nil, Tl.l_map, Tl.l_app, Tl.e_map, Tl.e_cons, Tl.e_nil, Tl.r_zero, Tl.r_succ, Tl.tl_cons, Tl.tl_nil, Tl.any_cons', Tl.any_nil', Tl.all_cons', Tl.all_nil', Tl.mem_one, Tl.eqs_self, Tl.tt_and, Tl.cps_bind, Tl.cps_pure, Tl.cps_fail, Tl.cps_ofO, Tl.cps_ite, Tl.cps_var, Tl.varK_v, Tl.varK_o, Tl.cps_C, Tl.set_v, Tl.set_o, Tl.set_a, Tl.cps_peek_v, Tl.cps_peek_o, Tl.cps_peek_a, Tl.peekK_v, Tl.peekK_o, Tl.cps_toV_v, Tl.cps_toV_o, Tl.cps_toV_a, Tl.toVK_v, Tl.toVK_o, Tl.peeks_n, Tl.peeks_c, Tl.toVs_n, Tl.toVs_c, Tl.toVs_vals, Tl.toVs_vals0, Tl.toVs_mv, Tl.toVs_mv0, Tl.cps_bin, Tl.cps_aNil, Tl.cps_aCons, Tl.it_l, Tl.it_t, Tl.cps_aStar, reduceIte, Nat.reduceAdd, Nat.reduceSub, Nat.reduceMul, Nat.reduceLT, Nat.reduceGT, Nat.reduceLeDiff, Nat.reduceEqDiff, Nat.reduceBEq, Nat.reduceBNe, Int.reduceNeg, Int.reduceAdd, Int.reduceSub, Int.reduceMul, Int.reduceLT, Int.reduceLE, Int.reduceGT, Int.reduceGE, Int.reduceEq, Int.reduceNe, Int.reduceBEq, Int.reduceBNe, Int.reducePow]
theorem cps_tup (k : Rv → List S → Option γ) : cps (eTup la) ρ kx k = cps la ρ kx fun rs ρ1 => cps (toVs rs) ρ1 kx fun ds ρ2 => (gz ds.length).bind fun _ => k (.val (.tup ds)) ρ2 := by
 unfold eTup; simp only [Tl.ob_some, Tl.ob_none, Tl.ob_assoc, Tl.om_eq, Tl.ob_ite, Tl.gz_small, Tl.gb_true, Tl.tt_true, Tl.ft_false, Tl.ite_T, Tl.ite_F, Tl.ite_fun, Tl.b_not_t, Tl.b_not_f, Tl.b_at, Tl.b_af, Tl.b_ot, Tl.b_of, Tl.b_ta, Tl.b_fa, Tl.g_zero, Tl.g_succ, Tl.s_zero, Tl.s_succ, Tl.gd_zero, Tl.gd_succ, Tl.a_cons, Tl.a_nil, Tl.a_nil2, Tl.m_cons, Tl.m_nil, Tl.m_app, Tl.m_map, Tl.m_idf, Tl.l_cons, Tl.l_nil, Tl.l_map, Tl.l_app, Tl.e_map, Tl.e_cons, Tl.e_nil, Tl.r_zero, Tl.r_succ, Tl.tl_cons, Tl.tl_nil, Tl.any_cons', Tl.any_nil', Tl.all_cons', Tl.all_nil', Tl.mem_one, Tl.eqs_self, Tl.tt_and, Tl.cps_bind, Tl.cps_pure, Tl.cps_fail, Tl.cps_ofO, Tl.cps_ite, Tl.cps_var, Tl.varK_v, Tl.varK_o, Tl.cps_C, Tl.set_v, Tl.set_o, Tl.set_a, Tl.cps_peek_v, Tl.cps_peek_o, Tl.cps_peek_a, Tl.peekK_v, Tl.peekK_o, Tl.cps_toV_v, Tl.cps_toV_o, Tl.cps_toV_a, Tl.toVK_v, Tl.toVK_o, Tl.peeks_n, Tl.peeks_c, Tl.toVs_n, Tl.toVs_c, Tl.toVs_vals, Tl.toVs_vals0, Tl.toVs_mv, Tl.toVs_mv0, Tl.cps_bin, Tl.cps_aNil, Tl.cps_aCons, Tl.it_l, Tl.it_t, Tl.cps_aStar, Tl.cps_eB, reduceIte, Nat.reduceAdd, Nat.reduceSub, Nat.reduceMul, Nat.reduceLT, Nat.reduceGT, Nat.reduceLeDiff, Nat.reduceEqDiff, Nat.reduceBEq, Nat.reduceBNe, Int.reduceNeg, Int.reduceAdd, Int.reduceSub, Int.reduceMul, Int.reduceLT, Int.reduceLE, Int.reduceGT, Int.reduceGE, Int.reduceEq, Int.reduceNe, Int.reduceBEq, Int.reduceBNe, Int.reducePow, gz, ob_ite]
theorem cps_lst (k : Rv → List S → Option γ) : cps (eLst la) ρ kx k = cps la ρ kx fun rs ρ1 => cps (toVs rs) ρ1 kx fun ds ρ2 => (gz ds.length).bind fun _ => k (.own (.lst ds)) ρ2 := by
 unfold eLst; simp only [Tl.ob_some, Tl.ob_none, Tl.ob_assoc, Tl.om_eq, Tl.ob_ite, Tl.gz_small, Tl.gb_true, Tl.tt_true, Tl.ft_false, Tl.ite_T, Tl.ite_F, Tl.ite_fun, Tl.b_not_t, Tl.b_not_f, Tl.b_at, Tl.b_af, Tl.b_ot, Tl.b_of, Tl.b_ta, Tl.b_fa, Tl.g_zero, Tl.g_succ, Tl.s_zero, Tl.s_succ, Tl.gd_zero, Tl.gd_succ, Tl.a_cons, Tl.a_nil, Tl.a_nil2, Tl.m_cons, Tl.m_nil, Tl.m_app, Tl.m_map, Tl.m_idf, Tl.l_cons, Tl.l_nil, Tl.l_map, Tl.l_app, Tl.e_map, Tl.e_cons, Tl.e_nil, Tl.r_zero, Tl.r_succ, Tl.tl_cons, Tl.tl_nil, Tl.any_cons', Tl.any_nil', Tl.all_cons', Tl.all_nil', Tl.mem_one, Tl.eqs_self, Tl.tt_and, Tl.cps_bind, Tl.cps_pure, Tl.cps_fail, Tl.cps_ofO, Tl.cps_ite, Tl.cps_var, Tl.varK_v, Tl.varK_o, Tl.cps_C, Tl.set_v, Tl.set_o, Tl.set_a, Tl.cps_peek_v, Tl.cps_peek_o, Tl.cps_peek_a, Tl.peekK_v, Tl.peekK_o, Tl.cps_toV_v, Tl.cps_toV_o, Tl.cps_toV_a, Tl.toVK_v, Tl.toVK_o, Tl.peeks_n, Tl.peeks_c, Tl.toVs_n, Tl.toVs_c, Tl.toVs_vals, Tl.toVs_vals0, Tl.toVs_mv, Tl.toVs_mv0, Tl.cps_bin, Tl.cps_aNil, Tl.cps_aCons, Tl.it_l, Tl.it_t, Tl.cps_aStar, Tl.cps_eB, Tl.cps_tup, reduceIte, Nat.reduceAdd, Nat.reduceSub, Nat.reduceMul, Nat.reduceLT, Nat.reduceGT, Nat.reduceLeDiff, Nat.reduceEqDiff, Nat.reduceBEq, Nat.reduceBNe, Int.reduceNeg, Int.reduceAdd, Int.reduceSub, Int.reduceMul, Int.reduceLT, Int.reduceLE, Int.reduceGT, Int.reduceGE, Int.reduceEq, Int.reduceNe, Int.reduceBEq, Int.reduceBNe, Int.reducePow, gz, ob_ite]
def ofI : D → Option Int
 | .int i => some i
 | _ => none
theorem ofI_i (i : Int) : ofI (.int i) = some i := rfl
theorem cps_oNo (k : Option Int → List S → Option γ) : cps oNo ρ kx k = k none ρ := rfl
theorem cps_oSome (k : Option Int → List S → Option γ) : cps (oSome fa) ρ kx k = cps fa ρ kx fun r ρ1 => cps (peek r) ρ1 kx fun d ρ2 => (ofI d).bind fun i => k (some i) ρ2 := by
 unfold oSome; simp only [cps_bind]
 congr 1; funext r ρ1; congr 1; funext d ρ2
 cases d <;> simp only [Tl.ob_some, Tl.ob_none, Tl.ob_assoc, Tl.om_eq, Tl.ob_ite, Tl.gz_small, Tl.gb_true, Tl.tt_true, Tl.ft_false, Tl.ite_T, Tl.ite_F, Tl.ite_fun, Tl.b_not_t, Tl.b_not_f, Tl.b_at, Tl.b_af, Tl.b_ot, Tl.b_of, Tl.b_ta, Tl.b_fa, Tl.g_zero, Tl.g_succ, Tl.s_zero, Tl.s_succ, Tl.gd_zero, Tl.gd_succ, Tl.a_cons, Tl.a_nil, Tl.a_nil2, Tl.m_cons, Tl.m_nil, Tl.m_app, Tl.m_map, Tl.m_idf, Tl.l_cons, Tl.l_nil, Tl.l_map, Tl.l_app, Tl.e_map, Tl.e_cons, Tl.e_nil, Tl.r_zero, Tl.r_succ, Tl.tl_cons, Tl.tl_nil, Tl.any_cons', Tl.any_nil', Tl.all_cons', Tl.all_nil', Tl.mem_one, Tl.eqs_self, Tl.tt_and, Tl.cps_bind, Tl.cps_pure, Tl.cps_fail, Tl.cps_ofO, Tl.cps_ite, Tl.cps_var, Tl.varK_v, Tl.varK_o, Tl.cps_C, Tl.set_v, Tl.set_o, Tl.set_a, Tl.cps_peek_v, Tl.cps_peek_o, Tl.cps_peek_a, Tl.peekK_v, Tl.peekK_o, Tl.cps_toV_v, Tl.cps_toV_o, Tl.cps_toV_a, Tl.toVK_v, Tl.toVK_o, Tl.peeks_n, Tl.peeks_c, Tl.toVs_n, Tl.toVs_c, Tl.toVs_vals, Tl.toVs_vals0, Tl.toVs_mv, Tl.toVs_mv0, Tl.cps_bin, Tl.cps_aNil, Tl.cps_aCons, Tl.it_l, Tl.it_t, Tl.cps_aStar, Tl.cps_eB, Tl.cps_tup, Tl.cps_lst, Tl.ofI_i, Tl.cps_oNo, reduceIte, Nat.reduceAdd, Nat.reduceSub, Nat.reduceMul, Nat.reduceLT, Nat.reduceGT, Nat.reduceLeDiff, Nat.reduceEqDiff, Nat.reduceBEq, Nat.reduceBNe, Int.reduceNeg, Int.reduceAdd, Int.reduceSub, Int.reduceMul, Int.reduceLT, Int.reduceLE, Int.reduceGT, Int.reduceGE, Int.reduceEq, Int.reduceNe, Int.reduceBEq, Int.reduceBNe, Int.reducePow] <;> rfl
theorem cps_sl (fl fh : M (Option Int)) (k : Rv → List S → Option γ) : cps (eSl fa fl fh) ρ kx k = cps fa ρ kx fun x ρ1 => cps fl ρ1 kx fun l ρ2 => cps fh ρ2 kx fun h ρ3 => cps (peek (Dl.settle x)) ρ3 kx fun d ρ4 => (dSl d l h).bind fun r => k r ρ4 := by
 unfold eSl; simp only [Tl.ob_some, Tl.ob_none, Tl.ob_assoc, Tl.om_eq, Tl.ob_ite, Tl.gz_small, Tl.gb_true, Tl.tt_true, Tl.ft_false, Tl.ite_T, Tl.ite_F, Tl.ite_fun, Tl.b_not_t, Tl.b_not_f, Tl.b_at, Tl.b_af, Tl.b_ot, Tl.b_of, Tl.b_ta, Tl.b_fa, Tl.g_zero, Tl.g_succ, Tl.s_zero, Tl.s_succ, Tl.gd_zero, Tl.gd_succ, Tl.a_cons, Tl.a_nil, Tl.a_nil2, Tl.m_cons, Tl.m_nil, Tl.m_app, Tl.m_map, Tl.m_idf, Tl.l_cons, Tl.l_nil, Tl.l_map, Tl.l_app, Tl.e_map, Tl.e_cons, Tl.e_nil, Tl.r_zero, Tl.r_succ, Tl.tl_cons, Tl.tl_nil, Tl.any_cons', Tl.any_nil', Tl.all_cons', Tl.all_nil', Tl.mem_one, Tl.eqs_self, Tl.tt_and, Tl.cps_bind, Tl.cps_pure, Tl.cps_fail, Tl.cps_ofO, Tl.cps_ite, Tl.cps_var, Tl.varK_v, Tl.varK_o, Tl.cps_C, Tl.set_v, Tl.set_o, Tl.set_a, Tl.cps_peek_v, Tl.cps_peek_o, Tl.cps_peek_a, Tl.peekK_v, Tl.peekK_o, Tl.cps_toV_v, Tl.cps_toV_o, Tl.cps_toV_a, Tl.toVK_v, Tl.toVK_o, Tl.peeks_n, Tl.peeks_c, Tl.toVs_n, Tl.toVs_c, Tl.toVs_vals, Tl.toVs_vals0, Tl.toVs_mv, Tl.toVs_mv0, Tl.cps_bin, Tl.cps_aNil, Tl.cps_aCons, Tl.it_l, Tl.it_t, Tl.cps_aStar, Tl.cps_eB, Tl.cps_tup, Tl.cps_lst, Tl.ofI_i, Tl.cps_oNo, Tl.cps_oSome, reduceIte, Nat.reduceAdd, Nat.reduceSub, Nat.reduceMul, Nat.reduceLT, Nat.reduceGT, Nat.reduceLeDiff, Nat.reduceEqDiff, Nat.reduceBEq, Nat.reduceBNe, Int.reduceNeg, Int.reduceAdd, Int.reduceSub, Int.reduceMul, Int.reduceLT, Int.reduceLE, Int.reduceGT, Int.reduceGE, Int.reduceEq, Int.reduceNe, Int.reduceBEq, Int.reduceBNe, Int.reducePow]
theorem cps_neg (k : Rv → List S → Option γ) : cps (eNeg fa) ρ kx k = cps fa ρ kx fun r ρ1 => cps (peek r) ρ1 kx fun d ρ2 => (ofI d).bind fun i => k (.val (.int (-i))) ρ2 := by
 unfold eNeg; simp only [cps_bind]
 congr 1; funext r ρ1; congr 1; funext d ρ2
 cases d <;> simp only [Tl.ob_some, Tl.ob_none, Tl.ob_assoc, Tl.om_eq, Tl.ob_ite, Tl.gz_small, Tl.gb_true, Tl.tt_true, Tl.ft_false, Tl.ite_T, Tl.ite_F, Tl.ite_fun, Tl.b_not_t, Tl.b_not_f, Tl.b_at, Tl.b_af, Tl.b_ot, Tl.b_of, Tl.b_ta, Tl.b_fa, Tl.g_zero, Tl.g_succ, Tl.s_zero, Tl.s_succ, Tl.gd_zero, Tl.gd_succ, Tl.a_cons, Tl.a_nil, Tl.a_nil2, Tl.m_cons, Tl.m_nil, Tl.m_app, Tl.m_map, Tl.m_idf, Tl.l_cons, Tl.l_nil, Tl.l_map, Tl.l_app, Tl.e_map, Tl.e_cons, Tl.e_nil, Tl.r_zero, Tl.r_succ, Tl.tl_cons, Tl.tl_nil, Tl.any_cons', Tl.any_nil', Tl.all_cons', Tl.all_nil', Tl.mem_one, Tl.eqs_self, Tl.tt_and, Tl.cps_bind, Tl.cps_pure, Tl.cps_fail, Tl.cps_ofO, Tl.cps_ite, Tl.cps_var, Tl.varK_v, Tl.varK_o, Tl.cps_C, Tl.set_v, Tl.set_o, Tl.set_a, Tl.cps_peek_v, Tl.cps_peek_o, Tl.cps_peek_a, Tl.peekK_v, Tl.peekK_o, Tl.cps_toV_v, Tl.cps_toV_o, Tl.cps_toV_a, Tl.toVK_v, Tl.toVK_o, Tl.peeks_n, Tl.peeks_c, Tl.toVs_n, Tl.toVs_c, Tl.toVs_vals, Tl.toVs_vals0, Tl.toVs_mv, Tl.toVs_mv0, Tl.cps_bin, Tl.cps_aNil, Tl.cps_aCons, Tl.it_l, Tl.it_t, Tl.cps_aStar, Tl.cps_eB, Tl.cps_tup, Tl.cps_lst, Tl.ofI_i, Tl.cps_oNo, Tl.cps_oSome, Tl.cps_sl, reduceIte, Nat.reduceAdd, Nat.reduceSub, Nat.reduceMul, Nat.reduceLT, Nat.reduceGT, Nat.reduceLeDiff, Nat.reduceEqDiff, Nat.reduceBEq, Nat.reduceBNe, Int.reduceNeg, Int.reduceAdd, Int.reduceSub, Int.reduceMul, Int.reduceLT, Int.reduceLE, Int.reduceGT, Int.reduceGE, Int.reduceEq, Int.reduceNe, Int.reduceBEq, Int.reduceBNe, Int.reducePow] <;> rfl
theorem cps_tru (r : Rv) (k : Bool → List S → Option γ) : cps (tru r) ρ kx k = cps (peek r) ρ kx fun d ρ1 => (truD d).bind fun b => k b ρ1 := by
 unfold tru; simp only [Tl.ob_some, Tl.ob_none, Tl.ob_assoc, Tl.om_eq, Tl.ob_ite, Tl.gz_small, Tl.gb_true, Tl.tt_true, Tl.ft_false, Tl.ite_T, Tl.ite_F, Tl.ite_fun, Tl.b_not_t, Tl.b_not_f, Tl.b_at, Tl.b_af, Tl.b_ot, Tl.b_of, Tl.b_ta, Tl.b_fa, Tl.g_zero, Tl.g_succ, Tl.s_zero, Tl.s_succ, Tl.gd_zero, Tl.gd_succ, Tl.a_cons, Tl.a_nil, Tl.a_nil2, Tl.m_cons, Tl.m_nil, Tl.m_app, Tl.m_map, Tl.m_idf, Tl.l_cons, Tl.l_nil, Tl.l_map, Tl.l_app, Tl.e_map, Tl.e_cons, Tl.e_nil, Tl.r_zero, Tl.r_succ, Tl.tl_cons, Tl.tl_nil, Tl.any_cons', Tl.any_nil', Tl.all_cons', Tl.all_nil', Tl.mem_one, Tl.eqs_self, Tl.tt_and, Tl.cps_bind, Tl.cps_pure, Tl.cps_fail, Tl.cps_ofO, Tl.cps_ite, Tl.cps_var, Tl.varK_v, Tl.varK_o, Tl.cps_C, Tl.set_v, Tl.set_o, Tl.set_a, Tl.cps_peek_v, Tl.cps_peek_o, Tl.cps_peek_a, Tl.peekK_v, Tl.peekK_o, Tl.cps_toV_v, Tl.cps_toV_o, Tl.cps_toV_a, Tl.toVK_v, Tl.toVK_o, Tl.peeks_n, Tl.peeks_c, Tl.toVs_n, Tl.toVs_c, Tl.toVs_vals, Tl.toVs_vals0, Tl.toVs_mv, Tl.toVs_mv0, Tl.cps_bin, Tl.cps_aNil, Tl.cps_aCons, Tl.it_l, Tl.it_t, Tl.cps_aStar, Tl.cps_eB, Tl.cps_tup, Tl.cps_lst, Tl.ofI_i, Tl.cps_oNo, Tl.cps_oSome, Tl.cps_sl, Tl.cps_neg, reduceIte, Nat.reduceAdd, Nat.reduceSub, Nat.reduceMul, Nat.reduceLT, Nat.reduceGT, Nat.reduceLeDiff, Nat.reduceEqDiff, Nat.reduceBEq, Nat.reduceBNe, Int.reduceNeg, Int.reduceAdd, Int.reduceSub, Int.reduceMul, Int.reduceLT, Int.reduceLE, Int.reduceGT, Int.reduceGE, Int.reduceEq, Int.reduceNe, Int.reduceBEq, Int.reduceBNe, Int.reducePow]
theorem cps_tVal (k : Bool → List S → Option γ) : cps (tVal fa) ρ kx k = cps fa ρ kx fun r ρ1 => cps (tru r) ρ1 kx k := by
 unfold tVal; simp only [cps_bind]
theorem cps_tNot (k : Bool → List S → Option γ) : cps (tNot ga) ρ kx k = cps ga ρ kx fun b ρ1 => k (!b) ρ1 := by
 unfold tNot; simp only [Tl.ob_some, Tl.ob_none, Tl.ob_assoc, Tl.om_eq, Tl.ob_ite, Tl.gz_small, Tl.gb_true, Tl.tt_true, Tl.ft_false, Tl.ite_T, Tl.ite_F, Tl.ite_fun, Tl.b_not_t, Tl.b_not_f, Tl.b_at, Tl.b_af, Tl.b_ot, Tl.b_of, Tl.b_ta, Tl.b_fa, Tl.g_zero, Tl.g_succ, Tl.s_zero, Tl.s_succ, Tl.gd_zero, Tl.gd_succ, Tl.a_cons, Tl.a_nil, Tl.a_nil2, Tl.m_cons, Tl.m_nil, Tl.m_app, Tl.m_map, Tl.m_idf, Tl.l_cons, Tl.l_nil, Tl.l_map, Tl.l_app, Tl.e_map, Tl.e_cons, Tl.e_nil, Tl.r_zero, Tl.r_succ, Tl.tl_cons, Tl.tl_nil, Tl.any_cons', Tl.any_nil', Tl.all_cons', Tl.all_nil', Tl.mem_one, Tl.eqs_self, Tl.tt_and, Tl.cps_bind, Tl.cps_pure, Tl.cps_fail, Tl.cps_ofO, Tl.cps_ite, Tl.cps_var, Tl.varK_v, Tl.varK_o, Tl.cps_C, Tl.set_v, Tl.set_o, Tl.set_a, Tl.cps_peek_v, Tl.cps_peek_o, Tl.cps_peek_a, Tl.peekK_v, Tl.peekK_o, Tl.cps_toV_v, Tl.cps_toV_o, Tl.cps_toV_a, Tl.toVK_v, Tl.toVK_o, Tl.peeks_n, Tl.peeks_c, Tl.toVs_n, Tl.toVs_c, Tl.toVs_vals, Tl.toVs_vals0, Tl.toVs_mv, Tl.toVs_mv0, Tl.cps_bin, Tl.cps_aNil, Tl.cps_aCons, Tl.it_l, Tl.it_t, Tl.cps_aStar, Tl.cps_eB, Tl.cps_tup, Tl.cps_lst, Tl.ofI_i, Tl.cps_oNo, Tl.cps_oSome, Tl.cps_sl, Tl.cps_neg, Tl.cps_tru, Tl.cps_tVal, reduceIte, Nat.reduceAdd, Nat.reduceSub, Nat.reduceMul, Nat.reduceLT, Nat.reduceGT, Nat.reduceLeDiff, Nat.reduceEqDiff, Nat.reduceBEq, Nat.reduceBNe, Int.reduceNeg, Int.reduceAdd, Int.reduceSub, Int.reduceMul, Int.reduceLT, Int.reduceLE, Int.reduceGT, Int.reduceGE, Int.reduceEq, Int.reduceNe, Int.reduceBEq, Int.reduceBNe, Int.reducePow]
theorem cps_tAnd (k : Bool → List S → Option γ) : cps (tAnd ga gb') ρ kx k = cps ga ρ kx fun b ρ1 => if b = true then cps gb' ρ1 kx k else k false ρ1 := by
 unfold tAnd; simp only [Tl.ob_some, Tl.ob_none, Tl.ob_assoc, Tl.om_eq, Tl.ob_ite, Tl.gz_small, Tl.gb_true, Tl.tt_true, Tl.ft_false, Tl.ite_T, Tl.ite_F, Tl.ite_fun, Tl.b_not_t, Tl.b_not_f, Tl.b_at, Tl.b_af, Tl.b_ot, Tl.b_of, Tl.b_ta, Tl.b_fa, Tl.g_zero, Tl.g_succ, Tl.s_zero, Tl.s_succ, Tl.gd_zero, Tl.gd_succ, Tl.a_cons, Tl.a_nil, Tl.a_nil2, Tl.m_cons, Tl.m_nil, Tl.m_app, Tl.m_map, Tl.m_idf, Tl.l_cons, Tl.l_nil, Tl.l_map, Tl.l_app, Tl.e_map, Tl.e_cons, Tl.e_nil, Tl.r_zero, Tl.r_succ, Tl.tl_cons, Tl.tl_nil, Tl.any_cons', Tl.any_nil', Tl.all_cons', Tl.all_nil', Tl.mem_one, Tl.eqs_self, Tl.tt_and, Tl.cps_bind, Tl.cps_pure, Tl.cps_fail, Tl.cps_ofO, Tl.cps_ite, Tl.cps_var, Tl.varK_v, Tl.varK_o, Tl.cps_C, Tl.set_v, Tl.set_o, Tl.set_a, Tl.cps_peek_v, Tl.cps_peek_o, Tl.cps_peek_a, Tl.peekK_v, Tl.peekK_o, Tl.cps_toV_v, Tl.cps_toV_o, Tl.cps_toV_a, Tl.toVK_v, Tl.toVK_o, Tl.peeks_n, Tl.peeks_c, Tl.toVs_n, Tl.toVs_c, Tl.toVs_vals, Tl.toVs_vals0, Tl.toVs_mv, Tl.toVs_mv0, Tl.cps_bin, Tl.cps_aNil, Tl.cps_aCons, Tl.it_l, Tl.it_t, Tl.cps_aStar, Tl.cps_eB, Tl.cps_tup, Tl.cps_lst, Tl.ofI_i, Tl.cps_oNo, Tl.cps_oSome, Tl.cps_sl, Tl.cps_neg, Tl.cps_tru, Tl.cps_tVal, Tl.cps_tNot, reduceIte, Nat.reduceAdd, Nat.reduceSub, Nat.reduceMul, Nat.reduceLT, Nat.reduceGT, Nat.reduceLeDiff, Nat.reduceEqDiff, Nat.reduceBEq, Nat.reduceBNe, Int.reduceNeg, Int.reduceAdd, Int.reduceSub, Int.reduceMul, Int.reduceLT, Int.reduceLE, Int.reduceGT, Int.reduceGE, Int.reduceEq, Int.reduceNe, Int.reduceBEq, Int.reduceBNe, Int.reducePow]
theorem cps_tOr (k : Bool → List S → Option γ) : cps (tOr ga gb') ρ kx k = cps ga ρ kx fun b ρ1 => if b = true then k true ρ1 else cps gb' ρ1 kx k := by
 unfold tOr; simp only [Tl.ob_some, Tl.ob_none, Tl.ob_assoc, Tl.om_eq, Tl.ob_ite, Tl.gz_small, Tl.gb_true, Tl.tt_true, Tl.ft_false, Tl.ite_T, Tl.ite_F, Tl.ite_fun, Tl.b_not_t, Tl.b_not_f, Tl.b_at, Tl.b_af, Tl.b_ot, Tl.b_of, Tl.b_ta, Tl.b_fa, Tl.g_zero, Tl.g_succ, Tl.s_zero, Tl.s_succ, Tl.gd_zero, Tl.gd_succ, Tl.a_cons, Tl.a_nil, Tl.a_nil2, Tl.m_cons, Tl.m_nil, Tl.m_app, Tl.m_map, Tl.m_idf, Tl.l_cons, Tl.l_nil, Tl.l_map, Tl.l_app, Tl.e_map, Tl.e_cons, Tl.e_nil, Tl.r_zero, Tl.r_succ, Tl.tl_cons, Tl.tl_nil, Tl.any_cons', Tl.any_nil', Tl.all_cons', Tl.all_nil', Tl.mem_one, Tl.eqs_self, Tl.tt_and, Tl.cps_bind, Tl.cps_pure, Tl.cps_fail, Tl.cps_ofO, Tl.cps_ite, Tl.cps_var, Tl.varK_v, Tl.varK_o, Tl.cps_C, Tl.set_v, Tl.set_o, Tl.set_a, Tl.cps_peek_v, Tl.cps_peek_o, Tl.cps_peek_a, Tl.peekK_v, Tl.peekK_o, Tl.cps_toV_v, Tl.cps_toV_o, Tl.cps_toV_a, Tl.toVK_v, Tl.toVK_o, Tl.peeks_n, Tl.peeks_c, Tl.toVs_n, Tl.toVs_c, Tl.toVs_vals, Tl.toVs_vals0, Tl.toVs_mv, Tl.toVs_mv0, Tl.cps_bin, Tl.cps_aNil, Tl.cps_aCons, Tl.it_l, Tl.it_t, Tl.cps_aStar, Tl.cps_eB, Tl.cps_tup, Tl.cps_lst, Tl.ofI_i, Tl.cps_oNo, Tl.cps_oSome, Tl.cps_sl, Tl.cps_neg, Tl.cps_tru, Tl.cps_tVal, Tl.cps_tNot, Tl.cps_tAnd, reduceIte, Nat.reduceAdd, Nat.reduceSub, Nat.reduceMul, Nat.reduceLT, Nat.reduceGT, Nat.reduceLeDiff, Nat.reduceEqDiff, Nat.reduceBEq, Nat.reduceBNe, Int.reduceNeg, Int.reduceAdd, Int.reduceSub, Int.reduceMul, Int.reduceLT, Int.reduceLE, Int.reduceGT, Int.reduceGE, Int.reduceEq, Int.reduceNe, Int.reduceBEq, Int.reduceBNe, Int.reducePow]
theorem cps_eNot (k : Rv → List S → Option γ) : cps (eNot fa) ρ kx k = cps fa ρ kx fun r ρ1 => cps (tru r) ρ1 kx fun b ρ2 => k (.val (.bl (!b))) ρ2 := by
 unfold eNot; simp only [cps_bind, cps_pure]
theorem cps_eAnd (k : Rv → List S → Option γ) : cps (eAnd fa fb) ρ kx k = cps fa ρ kx fun r ρ1 => cps (tru (Dl.settle r)) ρ1 kx fun b ρ2 => if b = true then cps fb ρ2 kx k else k (Dl.settle r) ρ2 := by
 unfold eAnd; simp only [cps_bind, cps_pure, cps_ite]
theorem cps_eOr (k : Rv → List S → Option γ) : cps (eOr fa fb) ρ kx k = cps fa ρ kx fun r ρ1 => cps (tru (Dl.settle r)) ρ1 kx fun b ρ2 => if b = true then k (Dl.settle r) ρ2 else cps fb ρ2 kx k := by
 unfold eOr; simp only [cps_bind, cps_pure, cps_ite]
theorem cps_eIf (k : Rv → List S → Option γ) : cps (eIf ga fa fb) ρ kx k = cps ga ρ kx fun b ρ1 => if b = true then cps fa ρ1 kx k else cps fb ρ1 kx k := by
 unfold eIf; simp only [cps_bind, cps_ite]
def ofBl : Rv → Option Bool
 | .val (.bl b) => some b
 | _ => none
theorem ofBl_b (b : Bool) : ofBl (.val (.bl b)) = some b := rfl
theorem cps_tCmp (k : Bool → List S → Option γ) : cps (tCmp fa) ρ kx k = cps fa ρ kx fun r ρ1 => (ofBl r).bind fun b => k b ρ1 := by
 unfold tCmp; simp only [cps_bind]
 congr 1; funext r ρ1
 cases r with
 | val d => cases d <;> rfl
 | _ => rfl
theorem cps_yes (k : Bool → List S → Option γ) : cps tYes' ρ kx k = k true ρ := rfl
def fldO (cs : List Str) (f : Str) : D → Option D
 | .obj n ns ds => if n ∈ cs then lkF f ns ds else none
 | _ => none
theorem cps_fld (cs : List Str) (f : Str) (k : Rv → List S → Option γ) : cps (eFld cs f fa) ρ kx k = cps fa ρ kx fun r ρ1 => cps (peek r) ρ1 kx fun d ρ2 => (fldO cs f d).bind fun e => k (.val e) ρ2 := by
 unfold eFld; simp only [cps_bind]
 congr 1; funext r ρ1; congr 1; funext d ρ2
 cases d with
 | obj n ns ds =>
  unfold fldO
  dsimp only
  by_cases h : n ∈ cs
  · rw [if_pos h, if_pos h, cps_ofO]; cases lkF f ns ds <;> rfl
  · rw [if_neg h, if_neg h]; rfl
 | _ => rfl
theorem cps_frz (k : Rv → List S → Option γ) : cps (eFrz fa) ρ kx k = cps fa ρ kx fun r ρ1 => cps (toV r) ρ1 kx fun d ρ2 => k (.val d) ρ2 := by
 unfold eFrz; simp only [cps_bind, cps_pure]
theorem prep_n (ms : List Bool) : prep ms [] = pure [] := by cases ms with
 | nil => rfl
 | cons b ms => cases b <;> rfl
theorem prep_t (ms : List Bool) (r : Rv) (rs : List Rv) : prep (true :: ms) (r :: rs) = (prep ms rs >>= fun rs' => pure (r :: rs')) := rfl
theorem prep_f (ms : List Bool) (r : Rv) (rs : List Rv) : prep (false :: ms) (r :: rs) = (toV r >>= fun d => prep ms rs >>= fun rs' => pure (.val d :: rs')) := rfl
theorem prep_z (r : Rv) (rs : List Rv) : prep [] (r :: rs) = (toV r >>= fun d => prep [] rs >>= fun rs' => pure (.val d :: rs')) := rfl
def notAli : Rv → Bool
 | .ali _ => false
 | _ => true
def callO (rs' : List Rv) (ρ ρ1 : List S) (kx : Xn → List S → Option γ) (k : Rv → List S → Option γ) : Of → Option γ
 | .ret q ss' => if (noAli rs' && scaR q) = true then k q ρ else if notAli q = true then k q (back rs' ss' ρ1) else none
 | .ex e ss' => kx e (back rs' ss' ρ1)
theorem cps_call (mu : List Bool) (fn : Fn) (rs : List Rv) (k : Rv → List S → Option γ) : cps (callM mu fn rs) ρ kx k = cps (prep mu rs) ρ (fun _ _ => none) fun rs' ρ1 => if dist rs' = true then (ssOfs ρ1 rs').bind fun ss => (fn ss).bind (callO rs' ρ ρ1 kx k) else none := by
 unfold callM cps
 dsimp only
 cases q : prep mu rs ρ with
 | none => rfl
 | some o =>
  cases o with
  | ex e ρ' => rfl
  | ok rs' ρ1 =>
   dsimp only
   by_cases hd : dist rs' = true
   · rw [if_pos hd, if_pos hd]
     cases ssOfs ρ1 rs' with
     | none => rfl
     | some ss =>
      dsimp only [Option.bind]
      cases fn ss with
      | none => rfl
      | some o2 =>
       cases o2 with
       | ex e ss' => rfl
       | ret q ss' =>
        dsimp only [callO]
        by_cases hn : (noAli rs' && scaR q) = true
        · rw [if_pos hn, if_pos hn]
        · rw [if_neg hn, if_neg hn]
          cases q <;> rfl
   · rw [if_neg hd, if_neg hd]
theorem callO_ret (rs' : List Rv) (ρ ρ1 : List S) (kx : Xn → List S → Option γ) (k : Rv → List S → Option γ) (q : Rv) (ss' : List S) : callO rs' ρ ρ1 kx k (.ret q ss') = if (noAli rs' && scaR q) = true then k q ρ else if notAli q = true then k q (back rs' ss' ρ1) else none := rfl
theorem callO_ex (rs' : List Rv) (ρ ρ1 : List S) (kx : Xn → List S → Option γ) (k : Rv → List S → Option γ) (e : Xn) (ss' : List S) : callO rs' ρ ρ1 kx k (.ex e ss') = kx e (back rs' ss' ρ1) := rfl
theorem na_v (d : D) : notAli (.val d) = true := rfl
theorem na_o (d : D) : notAli (.own d) = true := rfl
theorem cps_eCall (mu : List Bool) (fn : Fn) (k : Rv → List S → Option γ) : cps (eCall mu fn la) ρ kx k = cps la ρ kx fun rs ρ1 => cps (callM mu fn rs) ρ1 kx k := by
 unfold eCall; simp only [cps_bind]
theorem ssOfs_n (ρ : List S) : ssOfs ρ [] = some [] := rfl
theorem ssOfs_c (ρ : List S) (r : Rv) (rs : List Rv) : ssOfs ρ (r :: rs) = (ssOf ρ r).bind fun s => (ssOfs ρ rs).bind fun ss => some (s :: ss) := by
 show (match ssOf ρ r, ssOfs ρ rs with
  | some s, some ss => some (s :: ss)
  | _, _ => none) = _
 cases ssOf ρ r with
 | none => rfl
 | some s => cases ssOfs ρ rs <;> rfl
def ssK : Option S → Option S
 | some (.val d) => some (.val d)
 | some (.own d) => some (.own d)
 | _ => none
theorem ssOf_v (ρ : List S) (d : D) : ssOf ρ (.val d) = some (.val d) := rfl
theorem ssOf_a (ρ : List S) (i : Nat) : ssOf ρ (.ali i) = ssK ρ[i]? := by
 unfold ssOf ssK
 dsimp only
 all_goals cases ρ[i]? with
 | none => rfl
 | some s => cases s <;> rfl
theorem ssK_v (d : D) : ssK (some (.val d)) = some (.val d) := rfl
theorem ssK_o (d : D) : ssK (some (.own d)) = some (.own d) := rfl
theorem dist_n : dist [] = true := rfl
theorem dist_v (d : D) (rs : List Rv) : dist (.val d :: rs) = dist rs := rfl
theorem dist_a (i : Nat) (rs : List Rv) : dist (.ali i :: rs) = (!rs.any (isAli i) && dist rs) := rfl
theorem isAli_v (i : Nat) (d : D) : isAli i (.val d) = false := rfl
theorem isAli_a (i j : Nat) : isAli i (.ali j) = (i == j) := rfl
theorem noAli_n : noAli [] = true := rfl
theorem noAli_v (d : D) (rs : List Rv) : noAli (.val d :: rs) = noAli rs := rfl
theorem noAli_a (i : Nat) (rs : List Rv) : noAli (.ali i :: rs) = false := rfl
theorem scaR_o (d : D) : scaR (.own d) = false := rfl
theorem scaR_v (d : D) : scaR (.val d) = scaD d := rfl
theorem sca_n : scaD .non = true := rfl
theorem sca_b (b : Bool) : scaD (.bl b) = true := rfl
theorem sca_i (i : Int) : scaD (.int i) = true := rfl
theorem sca_s (x : Str) : scaD (.str x) = true := rfl
theorem sca_l (x : List D) : scaD (.lst x) = false := rfl
theorem sca_t (x : List D) : scaD (.tup x) = false := rfl
theorem sca_ob (c : Str) (ns : List Str) (x : List D) : scaD (.obj c ns x) = false := rfl
theorem back_n (ss ρ : List S) : back [] ss ρ = ρ := rfl
theorem back_v (d : D) (rs : List Rv) (s : S) (ss ρ : List S) : back (.val d :: rs) (s :: ss) ρ = back rs ss ρ := rfl
theorem back_a (i : Nat) (rs : List Rv) (s : S) (ss ρ : List S) : back (.ali i :: rs) (s :: ss) ρ = back rs ss (back1 i s ρ) := rfl
def b1K (i : Nat) (s : S) (ρ : List S) : Option S → List S
 | some (.own _) => ρ.set i (ownOr s)
 | _ => ρ
theorem back1_eq (i : Nat) (s : S) (ρ : List S) : back1 i s ρ = b1K i s ρ ρ[i]? := by
 unfold back1 b1K isOwn
 cases ρ[i]? with
 | none => rfl
 | some s => cases s <;> rfl
theorem b1K_o (i : Nat) (s : S) (ρ : List S) (d : D) : b1K i s ρ (some (.own d)) = ρ.set i (ownOr s) := rfl
theorem b1K_v (i : Nat) (s : S) (ρ : List S) (d : D) : b1K i s ρ (some (.val d)) = ρ := rfl
theorem ownOr_o (d : D) : ownOr (.own d) = .own d := rfl
def makeO (rs' : List Rv) (ρ1 : List S) (kx : Xn → List S → Option γ) (k : Rv → List S → Option γ) : Of → Option γ
 | .ret (.val .non) (.own d :: ss') => k (.own d) (back rs' ss' ρ1)
 | .ex e (_ :: ss') => kx e (back rs' ss' ρ1)
 | _ => none
theorem cps_makeM (n : Str) (mu : List Bool) (fn : Fn) (rs : List Rv) (k : Rv → List S → Option γ) : cps (makeM n mu fn rs) ρ kx k = cps (prep mu rs) ρ (fun _ _ => none) fun rs' ρ1 => if dist rs' = true then (ssOfs ρ1 rs').bind fun ss => (fn (.own (.obj n [] []) :: ss)).bind (makeO rs' ρ1 kx k) else none := by
 unfold makeM cps
 dsimp only
 cases q : prep mu rs ρ with
 | none => rfl
 | some o =>
  cases o with
  | ex e ρ' => rfl
  | ok rs' ρ1 =>
   dsimp only
   by_cases hd : dist rs' = true
   · rw [if_pos hd, if_pos hd]
     cases ssOfs ρ1 rs' with
     | none => rfl
     | some ss =>
      dsimp only [Option.bind]
      cases fn (.own (.obj n [] []) :: ss) with
      | none => rfl
      | some o2 =>
       cases o2 with
       | ex e ss' => cases ss' <;> rfl
       | ret q ss' =>
        cases q with
        | val d => cases d <;> first | rfl | (cases ss' with
         | nil => rfl
         | cons s ss' => cases s <;> rfl)
        | _ => rfl
   · rw [if_neg hd, if_neg hd]
theorem makeO_ret (rs' : List Rv) (ρ1 : List S) (kx : Xn → List S → Option γ) (k : Rv → List S → Option γ) (d : D) (ss' : List S) : makeO rs' ρ1 kx k (.ret (.val .non) (.own d :: ss')) = k (.own d) (back rs' ss' ρ1) := rfl
theorem makeO_ex (rs' : List Rv) (ρ1 : List S) (kx : Xn → List S → Option γ) (k : Rv → List S → Option γ) (e : Xn) (s : S) (ss' : List S) : makeO rs' ρ1 kx k (.ex e (s :: ss')) = kx e (back rs' ss' ρ1) := rfl
theorem cps_eMake (n : Str) (mu : List Bool) (fn : Fn) (k : Rv → List S → Option γ) : cps (eMake n mu fn la) ρ kx k = cps la ρ kx fun rs ρ1 => cps (makeM n mu fn rs) ρ1 kx k := by
 unfold eMake; simp only [cps_bind]
def isObj (n : Str) : D → Bool
 | .obj n' _ _ => decide (n' = n)
 | _ => false
def isObjM (n m : Str) : D → Bool
 | .obj n' ns _ => decide (n' = n ∧ m ∉ ns)
 | _ => false
theorem cps_ckC (n : Str) (r : Rv) (k : Unit → List S → Option γ) : cps (ckC n r) ρ kx k = cps (peek r) ρ kx fun d ρ1 => (gb (isObj n d)).bind fun _ => k () ρ1 := by
 unfold ckC; simp only [cps_bind]
 congr 1; funext d ρ1
 cases d with
 | obj n' ns ds =>
  dsimp only [isObj]
  by_cases h : n' = n
  · rw [if_pos h, decide_eq_true h]; rfl
  · rw [if_neg h, decide_eq_false h]; rfl
 | _ => rfl
theorem cps_ckO (n m : Str) (r : Rv) (k : Unit → List S → Option γ) : cps (ckO n m r) ρ kx k = cps (peek r) ρ kx fun d ρ1 => (gb (isObjM n m d)).bind fun _ => k () ρ1 := by
 unfold ckO; simp only [cps_bind]
 congr 1; funext d ρ1
 cases d with
 | obj n' ns ds =>
  dsimp only [isObjM]
  by_cases h : n' = n ∧ m ∉ ns
  · rw [if_pos h, decide_eq_true h]; rfl
  · rw [if_neg h, decide_eq_false h]; rfl
 | _ => rfl
theorem cps_meth (n m : Str) (mu : List Bool) (fn : Fn) (k : Rv → List S → Option γ) : cps (eMeth n m mu fn fa la) ρ kx k = cps fa ρ kx fun r ρ1 => cps (ckO n m (Dl.settle r)) ρ1 kx fun _ ρ2 => cps la ρ2 kx fun rs ρ3 => cps (callM mu fn (Dl.settle r :: rs)) ρ3 kx k := by
 unfold eMeth; simp only [cps_bind]
theorem cps_own2 (n : Str) (mu : List Bool) (fn : Fn) (k : Rv → List S → Option γ) : cps (eOwn2 n mu fn fa fb) ρ kx k = cps fa ρ kx fun r ρ1 => cps fb ρ1 kx fun q ρ2 => cps (ckC n (Dl.settle r)) ρ2 kx fun _ ρ3 => cps (ckC n (Dl.settle q)) ρ3 kx fun _ ρ4 => cps (callM mu fn [Dl.settle r, Dl.settle q]) ρ4 kx k := by
 unfold eOwn2; simp only [cps_bind]
theorem cps_ownIn (n : Str) (mu : List Bool) (fn : Fn) (k : Rv → List S → Option γ) : cps (eOwnIn n mu fn fa fb) ρ kx k = cps fa ρ kx fun r ρ1 => cps fb ρ1 kx fun q ρ2 => cps (ckC n (Dl.settle q)) ρ2 kx fun _ ρ3 => cps (callM mu fn [Dl.settle q, Dl.settle r]) ρ3 kx fun z ρ4 => (ofBl z).bind fun b => k (.val (.bl b)) ρ4 := by
 unfold eOwnIn; simp only [cps_bind]
 congr 1; funext r ρ1; congr 1; funext q ρ2; congr 1; funext _ ρ3; congr 1; funext z ρ4
 cases z with
 | val d => cases d <;> rfl
 | _ => rfl
def ownK (i : Nat) : Option S → Option (Nat × List D)
 | some (.own (.lst ds)) => some (i, ds)
 | _ => none
theorem ownLst_a (i : Nat) (ρ : List S) : ownLst (.ali i) ρ = ownK i ρ[i]? := by
 unfold ownLst ownK
 dsimp only
 all_goals cases ρ[i]? with
 | none => rfl
 | some s => cases s with
  | own d => cases d <;> rfl
  | _ => rfl
theorem ownK_o (i : Nat) (ds : List D) : ownK i (some (.own (.lst ds))) = some (i, ds) := rfl
theorem cps_append (k : Rv → List S → Option γ) : cps (mAppend fa fb) ρ kx k = cps fa ρ kx fun r ρ1 => (ownLst (Dl.settle r) ρ1).bind fun _ => cps fb ρ1 kx fun x ρ2 => cps (toV (Dl.settle x)) ρ2 kx fun d ρ3 => (ownLst (Dl.settle r) ρ3).bind fun p => (gz (p.2.length + 1)).bind fun _ => k (.val .non) (ρ3.set p.1 (.own (.lst (p.2 ++ [d])))) := by
 unfold mAppend; refine (cps_bind _ _ k).trans ?_
 congr 1; funext r ρ1
 have e1 : ∀ (h : Unit → List S → Option γ), cps (ckL (Dl.settle r)) ρ1 kx h = (ownLst (Dl.settle r) ρ1).bind fun _ => h () ρ1 := fun h => by
  unfold cps ckL; cases ownLst (Dl.settle r) ρ1 <;> rfl
 refine (cps_bind _ _ k).trans ?_
 rw [e1]
 congr 1; funext _
 refine (cps_bind _ _ k).trans ?_
 congr 1; funext x ρ2
 refine (cps_bind _ _ k).trans ?_
 congr 1; funext d ρ3
 unfold cps gz
 dsimp only
 cases ownLst (Dl.settle r) ρ3 with
 | none => rfl
 | some p =>
  obtain ⟨i, ds⟩ := p
  dsimp only [Option.bind]
  by_cases h : ds.length < sizeLine
  · rw [if_pos h, if_pos (by omega)]
  · rw [if_neg h, if_neg (by omega)]
def ofL : D → Option (List D)
 | .lst xs => some xs
 | _ => none
theorem ofL_l (xs : List D) : ofL (.lst xs) = some xs := rfl
theorem cps_extend (k : Rv → List S → Option γ) : cps (mExtend fa fb) ρ kx k = cps fa ρ kx fun r ρ1 => (ownLst (Dl.settle r) ρ1).bind fun _ => cps fb ρ1 kx fun x ρ2 => cps (peek (Dl.settle x)) ρ2 kx fun d ρ3 => (ownLst (Dl.settle r) ρ3).bind fun p => (ofL d).bind fun es => (gz (p.2.length + es.length)).bind fun _ => k (.val .non) (ρ3.set p.1 (.own (.lst (p.2 ++ es)))) := by
 unfold mExtend; refine (cps_bind _ _ k).trans ?_
 congr 1; funext r ρ1
 have e1 : ∀ (h : Unit → List S → Option γ), cps (ckL (Dl.settle r)) ρ1 kx h = (ownLst (Dl.settle r) ρ1).bind fun _ => h () ρ1 := fun h => by
  unfold cps ckL; cases ownLst (Dl.settle r) ρ1 <;> rfl
 refine (cps_bind _ _ k).trans ?_
 rw [e1]
 congr 1; funext _
 refine (cps_bind _ _ k).trans ?_
 congr 1; funext x ρ2
 refine (cps_bind _ _ k).trans ?_
 congr 1; funext d ρ3
 unfold cps gz
 dsimp only
 cases ownLst (Dl.settle r) ρ3 with
 | none => cases d <;> rfl
 | some p =>
  obtain ⟨i, ds⟩ := p
  dsimp only [Option.bind]
  cases d with
  | lst es =>
   dsimp only [ofL]
   by_cases h : ds.length + es.length ≤ sizeLine
   · rw [if_pos h, if_pos h]
   · rw [if_neg h, if_neg h]
  | _ => rfl
theorem cps_clear (k : Rv → List S → Option γ) : cps (mClear fa) ρ kx k = cps fa ρ kx fun r ρ1 => (ownLst (Dl.settle r) ρ1).bind fun p => k (.val .non) (ρ1.set p.1 (.own (.lst []))) := by
 unfold mClear; refine (cps_bind _ _ k).trans ?_
 congr 1; funext r ρ1
 have e1 : ∀ (h : Unit → List S → Option γ), cps (ckL (Dl.settle r)) ρ1 kx h = (ownLst (Dl.settle r) ρ1).bind fun _ => h () ρ1 := fun h => by
  unfold cps ckL; cases ownLst (Dl.settle r) ρ1 <;> rfl
 refine (cps_bind _ _ k).trans ?_
 rw [e1]
 unfold cps
 dsimp only
 cases ownLst (Dl.settle r) ρ1 <;> rfl
theorem cps_iSeq (k : List D → List S → Option γ) : cps (iSeq fa) ρ kx k = cps fa ρ kx fun r ρ1 => cps (toV r) ρ1 kx fun d ρ2 => (items d).bind fun ds => k ds ρ2 := by
 unfold iSeq; simp only [cps_bind, cps_ofO]
theorem cps_rng1 (k : List D → List S → Option γ) : cps (iRng1 la) ρ kx k = cps la ρ kx fun rs ρ1 => cps (peeks rs) ρ1 kx fun ds ρ2 => (dRng1 ds).bind fun ds => k ds ρ2 := by
 unfold iRng1; simp only [cps_bind, cps_ofO]
theorem cps_rng2 (k : List D → List S → Option γ) : cps (iRng2 la) ρ kx k = cps la ρ kx fun rs ρ1 => cps (peeks rs) ρ1 kx fun ds ρ2 => (dRng2 ds).bind fun ds => k ds ρ2 := by
 unfold iRng2; simp only [cps_bind, cps_ofO]
theorem cps_zip (k : List D → List S → Option γ) : cps (iZip la) ρ kx k = cps la ρ kx fun rs ρ1 => cps (toVs rs) ρ1 kx fun ds ρ2 => (dZip ds).bind fun ds => k ds ρ2 := by
 unfold iZip; simp only [cps_bind, cps_ofO]
theorem cps_enu (k : List D → List S → Option γ) : cps (iEnu la) ρ kx k = cps la ρ kx fun rs ρ1 => cps (toVs rs) ρ1 kx fun ds ρ2 => (dEnum ds).bind fun ds => k ds ρ2 := by
 unfold iEnu; simp only [cps_bind, cps_ofO]
def rngI (lo : Int) (n : Nat) : List Int := (List.range n).map fun (k : Nat) => lo + (k : Int)
theorem rangeD_eq (lo : Int) (n : Nat) : rangeD lo n = (rngI lo n).map D.int := by unfold rangeD rngI; rw [List.map_map]; rfl
def rngT (j : Int) : Option (List Int) := if rngOk 0 j = true then some (rngI 0 j.toNat) else none
def rngT2 (i j : Int) : Option (List Int) := if rngOk i j = true then some (rngI i (j - i).toNat) else none
theorem dRng1_eq (j : Int) : dRng1 [.int j] = (rngT j).bind fun xs => some (xs.map D.int) := by
 show (if rngOk 0 j = true then some (rangeD 0 j.toNat) else none) = _
 unfold rngT; rw [rangeD_eq]; split <;> rfl
theorem dRng2_eq (i j : Int) : dRng2 [.int i, .int j] = (rngT2 i j).bind fun xs => some (xs.map D.int) := by
 show (if rngOk i j = true then some (rangeD i (j - i).toNat) else none) = _
 unfold rngT2; rw [rangeD_eq]; split <;> rfl
def zipT {α β : Type} (as : List α) (bs : List β) : Option (List (α × β)) := if (List.zip as bs).length ≤ 16777216 then some (List.zip as bs) else none
theorem zipD_map {α β : Type} (e : α → D) (e' : β → D) : ∀ (as : List α) (bs : List β), zipD (as.map e) (bs.map e') = (List.zip as bs).map fun p => D.tup [e p.1, e' p.2]
 | [], bs => by cases bs <;> rfl
 | a :: as, [] => rfl
 | a :: as, b :: bs => by
  have := zipD_map e e' as bs
  unfold zipD at this ⊢
  rw [List.map_cons, List.map_cons, List.zipWith_cons_cons, this]; rfl
theorem dZip_l {α β : Type} (e : α → D) (e' : β → D) (as : List α) (bs : List β) : dZip [.lst (as.map e), .lst (bs.map e')] = (zipT as bs).bind fun ps => some (ps.map fun p => D.tup [e p.1, e' p.2]) := by
 show (if (zipD (as.map e) (bs.map e')).length ≤ 16777216 then some (zipD (as.map e) (bs.map e')) else none) = _
 unfold zipT; rw [zipD_map, List.length_map]
 split <;> rfl
theorem dZip_t {α β : Type} (e : α → D) (e' : β → D) (as : List α) (bs : List β) : dZip [.tup (as.map e), .tup (bs.map e')] = (zipT as bs).bind fun ps => some (ps.map fun p => D.tup [e p.1, e' p.2]) := by
 show (if (zipD (as.map e) (bs.map e')).length ≤ 16777216 then some (zipD (as.map e) (bs.map e')) else none) = _
 unfold zipT; rw [zipD_map, List.length_map]
 split <;> rfl
def numT {α : Type} (xs : List α) : List (Int × α) := xs.zipIdx.map fun p => ((p.2 : Nat), p.1)
def enuT {α : Type} (xs : List α) : Option (List (Int × α)) := if xs.length ≤ 16777216 then some (numT xs) else none
theorem numD_map {α : Type} (e : α → D) (xs : List α) : numD (xs.map e) = (numT xs).map fun p => D.tup [.int p.1, e p.2] := by
 unfold numD numT
 rw [List.zipIdx_map, List.map_map, List.map_map]; rfl
theorem dEnum_l {α : Type} (e : α → D) (as : List α) : dEnum [.lst (as.map e)] = (enuT as).bind fun ps => some (ps.map fun p => D.tup [.int p.1, e p.2]) := by
 show (if (as.map e).length ≤ 16777216 then some (numD (as.map e)) else none) = _
 unfold enuT; rw [numD_map, List.length_map]
 split <;> rfl
theorem dEnum_t {α : Type} (e : α → D) (as : List α) : dEnum [.tup (as.map e)] = (enuT as).bind fun ps => some (ps.map fun p => D.tup [.int p.1, e p.2]) := by
 show (if (as.map e).length ≤ 16777216 then some (numD (as.map e)) else none) = _
 unfold enuT; rw [numD_map, List.length_map]
 split <;> rfl
end
end Tl
namespace Tl
open PySem Dl
open L2 (ixN atI)
def sq (o : Option Os) (g : MS) : Option Os := o.bind fun x => match x with
 | .nx ρ => g ρ
 | x => some x
section
variable {ρ : List S} {f g : MS} {fa fb fo : M Rv} {ga : M Bool}
theorem sSeq_eq : sSeq f g ρ = sq (f ρ) g := by
 unfold sSeq sq
 cases f ρ with
 | none => rfl
 | some o => cases o <;> rfl
theorem sq_none : sq none g = none := rfl
theorem sq_nx : sq (some (.nx ρ)) g = g ρ := rfl
theorem sq_rt (r : Rv) : sq (some (.rt r ρ)) g = some (.rt r ρ) := rfl
theorem sq_ct : sq (some (.ct ρ)) g = some (.ct ρ) := rfl
theorem sq_bk : sq (some (.bk ρ)) g = some (.bk ρ) := rfl
theorem sq_ex (e : Xn) : sq (some (.ex e ρ)) g = some (.ex e ρ) := rfl
theorem sq_bind {α : Type} (o : Option α) (h : α → Option Os) : sq (o.bind h) g = o.bind fun a => sq (h a) g := by cases o <;> rfl
theorem sq_ite (c : Prop) [Decidable c] (a b : Option Os) : sq (if c then a else b) g = if c then sq a g else sq b g := by split <;> rfl
theorem thenS_eq {α : Type} (f : M α) (k : α → MS) : thenS f k ρ = cps f ρ (fun e ρ => some (.ex e ρ)) k := by
 unfold thenS cps
 cases f ρ with
 | none => rfl
 | some o => cases o <;> rfl
theorem sNil_eq : sNil ρ = some (.nx ρ) := rfl
theorem sPass_eq : sPass ρ = some (.nx ρ) := rfl
theorem sBreak_eq : sBreak ρ = some (.bk ρ) := rfl
theorem sCont_eq : sCont ρ = some (.ct ρ) := rfl
theorem sNever_eq : sNever ρ = none := rfl
theorem sRetN_eq : sRetN ρ = some (.rt (.val .non) ρ) := rfl
theorem sExpr_eq : sExpr fa ρ = cps fa ρ (fun e ρ => some (.ex e ρ)) fun _ ρ => some (.nx ρ) := by unfold sExpr; rw [thenS_eq]; rfl
def retK (i : Nat) (ρ : List S) : Option S → Option Os
 | some (.val d) => some (.rt (.val d) ρ)
 | some (.own d) => some (.rt (.own d) (ρ.set i .no))
 | _ => none
theorem retV_v (d : D) : retV (.val d) ρ = some (.rt (.val d) ρ) := rfl
theorem retV_o (d : D) : retV (.own d) ρ = some (.rt (.own d) ρ) := rfl
theorem retV_a (i : Nat) : retV (.ali i) ρ = retK i ρ ρ[i]? := by
 unfold retV retK
 dsimp only
 all_goals cases ρ[i]? with
 | none => rfl
 | some s => cases s <;> rfl
theorem retK_v (i : Nat) (d : D) : retK i ρ (some (.val d)) = some (.rt (.val d) ρ) := rfl
theorem retK_o (i : Nat) (d : D) : retK i ρ (some (.own d)) = some (.rt (.own d) (ρ.set i .no)) := rfl
theorem sRet_eq : sRet fa ρ = cps fa ρ (fun e ρ => some (.ex e ρ)) retV := by unfold sRet; rw [thenS_eq]
def setK (i j : Nat) (ρ : List S) : Option S → Option Os
 | some (.val d) => some (.nx (ρ.set i (.val d)))
 | some (.own d) => some (.nx ((ρ.set j (.val d)).set i (.val d)))
 | _ => none
theorem setV_v (np i : Nat) (d : D) : setV np i (.val d) ρ = some (.nx (ρ.set i (.val d))) := rfl
theorem setV_o (np i : Nat) (d : D) : setV np i (.own d) ρ = if i < np then some (.nx (ρ.set i (.val d))) else some (.nx (ρ.set i (.own d))) := rfl
theorem setV_a (np i j : Nat) : setV np i (.ali j) ρ = setK i j ρ ρ[j]? := by
 unfold setV setK
 dsimp only
 all_goals cases ρ[j]? with
 | none => rfl
 | some s => cases s <;> rfl
theorem setK_v (i j : Nat) (d : D) : setK i j ρ (some (.val d)) = some (.nx (ρ.set i (.val d))) := rfl
theorem setK_o (i j : Nat) (d : D) : setK i j ρ (some (.own d)) = some (.nx ((ρ.set j (.val d)).set i (.val d))) := rfl
theorem sSet_eq (np i : Nat) : sSet np i fa ρ = cps fa ρ (fun e ρ => some (.ex e ρ)) (setV np i) := by unfold sSet; rw [thenS_eq]
theorem sIf_eq : sIf ga f g ρ = cps ga ρ (fun e ρ => some (.ex e ρ)) fun b ρ => if b = true then f ρ else g ρ := by
 unfold sIf; rw [thenS_eq]
 congr 1; funext b ρ; split <;> rfl
theorem sFor_eq (it : M (List D)) (tg : D → List S → Option (List S)) (body : MS) : sFor it tg body ρ = cps it ρ (fun e ρ => some (.ex e ρ)) fun ds ρ => forL tg body ds ρ := by unfold sFor; rw [thenS_eq]
theorem asg_eq (tg : D → List S → Option (List S)) (r : Rv) : asgV tg r ρ = cps (toV r) ρ (fun e ρ => some (.ex e ρ)) fun d ρ => (tg d ρ).bind fun ρ => some (.nx ρ) := by
 unfold asgV; rw [thenS_eq]
 congr 1; funext d ρ; cases tg d ρ <;> rfl
theorem sAsg_eq (tg : D → List S → Option (List S)) : sAsg tg fa ρ = cps fa ρ (fun e ρ => some (.ex e ρ)) fun r ρ => asgV tg r ρ := by unfold sAsg; rw [thenS_eq]
theorem sSetIx_eq : sSetIx fa fo fb ρ = cps fa ρ (fun e ρ => some (.ex e ρ)) fun x ρ => cps (toV x) ρ (fun e ρ => some (.ex e ρ)) fun d ρ => cps fo ρ (fun e ρ => some (.ex e ρ)) fun r ρ => cps fb ρ (fun e ρ => some (.ex e ρ)) fun j ρ => cps (peek (Dl.settle j)) ρ (fun e ρ => some (.ex e ρ)) fun e ρ =>
  (ownLst (Dl.settle r) ρ).bind fun p => (ofI e).bind fun k => (ixN p.2.length k).bind fun n => some (.nx (ρ.set p.1 (.own (.lst (p.2.set n d))))) := by
 unfold sSetIx
 rw [thenS_eq]; congr 1; funext x ρ
 rw [thenS_eq]; congr 1; funext d ρ
 rw [thenS_eq]; congr 1; funext r ρ
 rw [thenS_eq]; congr 1; funext j ρ
 rw [thenS_eq]; congr 1; funext e ρ
 cases ownLst (Dl.settle r) ρ with
 | none => rfl
 | some p =>
  cases e <;> first | rfl | (rename_i i; show (ixN p.2.length i).map _ = (ixN p.2.length i).bind _; cases ixN p.2.length i <;> rfl)
def ownObK (i : Nat) : Option S → Option (Nat × Str × List Str × List D)
 | some (.own (.obj n ns ds)) => some (i, n, ns, ds)
 | _ => none
theorem ownObj_a (i : Nat) (ρ : List S) : ownObj (.ali i) ρ = ownObK i ρ[i]? := by
 unfold ownObj ownObK
 dsimp only
 all_goals cases ρ[i]? with
 | none => rfl
 | some s => cases s with
  | own d => cases d <;> rfl
  | _ => rfl
theorem ownObK_o (i : Nat) (n : Str) (ns : List Str) (ds : List D) : ownObK i (some (.own (.obj n ns ds))) = some (i, n, ns, ds) := rfl
theorem sSetF_eq (cs : Flds) (f : Str) : sSetF cs f fo fa ρ = cps fa ρ (fun e ρ => some (.ex e ρ)) fun x ρ => cps (toV x) ρ (fun e ρ => some (.ex e ρ)) fun d ρ => cps fo ρ (fun e ρ => some (.ex e ρ)) fun r ρ =>
  (ownObj (Dl.settle r) ρ).bind fun p => if p.2.1 ∈ cs ∧ p.2.2.1.length < 1000 then some (.nx (ρ.set p.1 (.own (.obj p.2.1 (putF2 f d p.2.2.1 p.2.2.2).1 (putF2 f d p.2.2.1 p.2.2.2).2)))) else none := by
 unfold sSetF
 rw [thenS_eq]; congr 1; funext x ρ
 rw [thenS_eq]; congr 1; funext d ρ
 rw [thenS_eq]; congr 1; funext r ρ
 cases ownObj (Dl.settle r) ρ <;> rfl
theorem putF2_n (f : Str) (d : D) : putF2 f d [] [] = ([f], [d]) := rfl
theorem putF2_c (f : Str) (d : D) (n : Str) (ns : List Str) (e : D) (ds : List D) : putF2 f d (n :: ns) (e :: ds) = if n = f then (n :: ns, d :: ds) else (n :: (putF2 f d ns ds).1, e :: (putF2 f d ns ds).2) := rfl
theorem lkF_c (f : Str) (n : Str) (ns : List Str) (e : D) (ds : List D) : lkF f (n :: ns) (e :: ds) = if n = f then some e else lkF f ns ds := rfl
theorem fldO_eq (cs : List Str) (f n : Str) (ns : List Str) (ds : List D) : fldO cs f (.obj n ns ds) = if n ∈ cs then lkF f ns ds else none := rfl
theorem nrm_n : nrm [] ρ = ρ := rfl
theorem nrm_k (i : Nat) (l : List (Nat × Bool)) : nrm ((i, true) :: l) ρ = nrm l (ρ.set i .no) := rfl
theorem nrm_f (i : Nat) (l : List (Nat × Bool)) : nrm ((i, false) :: l) ρ = nrm l (frz1 i ρ[i]? ρ) := rfl
theorem frz1_o (i : Nat) (d : D) : frz1 i (some (.own d)) ρ = ρ.set i (.val d) := rfl
theorem frz1_v (i : Nat) (d : D) : frz1 i (some (.val d)) ρ = ρ := rfl
theorem frz1_n (i : Nat) : frz1 i (some .no) ρ = ρ := rfl
theorem kil_n : kil [] ρ = ρ := rfl
theorem kil_c (i : Nat) (l : List Nat) : kil (i :: l) ρ = kil l (ρ.set i .no) := rfl
theorem sFore_eq (l : List (Nat × Bool)) : sFore l f ρ = f (nrm l ρ) := rfl
def aq (l : List (Nat × Bool)) (o : Option Os) : Option Os := o.bind fun x => some (aftO l x)
theorem sAft_eq (l : List (Nat × Bool)) : sAft l f ρ = aq l (f ρ) := by
 show (f ρ).map _ = (f ρ).bind _
 cases f ρ <;> rfl
theorem sFz_eq (i : Nat) : sFz i f ρ = aq [(i, false)] (f ρ) := sAft_eq _
theorem aq_bind {α : Type} (l : List (Nat × Bool)) (o : Option α) (h : α → Option Os) : aq l (o.bind h) = o.bind fun a => aq l (h a) := by cases o <;> rfl
theorem aq_ite (l : List (Nat × Bool)) (c : Prop) [Decidable c] (a b : Option Os) : aq l (if c then a else b) = if c then aq l a else aq l b := by split <;> rfl
theorem aq_none (l : List (Nat × Bool)) : aq l none = none := rfl
theorem aq_nx (l : List (Nat × Bool)) : aq l (some (.nx ρ)) = some (.nx (nrm l ρ)) := rfl
theorem aq_ct (l : List (Nat × Bool)) : aq l (some (.ct ρ)) = some (.ct (nrm l ρ)) := rfl
theorem aq_bk (l : List (Nat × Bool)) : aq l (some (.bk ρ)) = some (.bk (nrm l ρ)) := rfl
theorem aq_rt (l : List (Nat × Bool)) (r : Rv) : aq l (some (.rt r ρ)) = some (.rt r ρ) := rfl
theorem aq_ex (l : List (Nat × Bool)) (e : Xn) : aq l (some (.ex e ρ)) = some (.ex e ρ) := rfl
def rq (l : List Nat) (o : Option Os) : Option Os := o.bind fun o => if noAli1 o = true then some (retO l o) else none
theorem sRtA_eq (l : List Nat) : sRtA l f ρ = rq l (f ρ) := rfl
theorem rq_bind {α : Type} (l : List Nat) (o : Option α) (h : α → Option Os) : rq l (o.bind h) = o.bind fun a => rq l (h a) := by cases o <;> rfl
theorem rq_ite (l : List Nat) (c : Prop) [Decidable c] (a b : Option Os) : rq l (if c then a else b) = if c then rq l a else rq l b := by split <;> rfl
theorem rq_none (l : List Nat) : rq l none = none := rfl
theorem rq_rtv (l : List Nat) (d : D) : rq l (some (.rt (.val d) ρ)) = some (.rt (.val d) (kil l ρ)) := rfl
theorem rq_rto (l : List Nat) (d : D) : rq l (some (.rt (.own d) ρ)) = some (.rt (.own d) (kil l ρ)) := rfl
theorem rq_ex (l : List Nat) (e : Xn) : rq l (some (.ex e ρ)) = some (.ex e (kil l ρ)) := rfl
theorem gN_eq (i : Nat) (d : D) : gN i d ρ = some (ρ.set i (.val d)) := rfl
theorem gT_eq (n : Nat) (gs : List D → List S → Option (List S)) (ds : List D) : gT n gs (.tup ds) ρ = if ds.length = n then gs ds ρ else none := rfl
theorem gsN_eq : gsNil [] ρ = some ρ := rfl
theorem gsC_eq (h : D → List S → Option (List S)) (gs : List D → List S → Option (List S)) (d : D) (ds : List D) : gsCons h gs (d :: ds) ρ = (h d ρ).bind fun ρ => gs ds ρ := rfl
def rtn (ss : List S) (o : Option Os) : Option Of := o.bind fun x => match x with
 | .nx ρ' => some (.ret (.val .non) (post ss ρ'))
 | .rt (.ali _) _ => none
 | .rt r ρ' => some (.ret r (post ss ρ'))
 | .ex e ρ' => some (.ex e (post ss ρ'))
 | _ => none
theorem mkFn_eq (np n : Nat) (f : MS) (ss : List S) : mkFn np n f ss = if ss.length = np then rtn ss (f (ss ++ List.replicate (n - np) .no)) else none := by
 unfold mkFn rtn
 split
 · cases f (ss ++ List.replicate (n - np) S.no) with
   | none => rfl
   | some o => cases o with
    | rt r ρ => cases r <;> rfl
    | _ => rfl
 · rfl
theorem rtn_bind {α : Type} (ss : List S) (o : Option α) (h : α → Option Os) : rtn ss (o.bind h) = o.bind fun a => rtn ss (h a) := by cases o <;> rfl
theorem rtn_ite (ss : List S) (c : Prop) [Decidable c] (a b : Option Os) : rtn ss (if c then a else b) = if c then rtn ss a else rtn ss b := by split <;> rfl
theorem rtn_none (ss : List S) : rtn ss none = none := rfl
theorem rtn_nx (ss : List S) : rtn ss (some (.nx ρ)) = some (.ret (.val .non) (post ss ρ)) := rfl
theorem rtn_rtv (ss : List S) (d : D) : rtn ss (some (.rt (.val d) ρ)) = some (.ret (.val d) (post ss ρ)) := rfl
theorem rtn_rto (ss : List S) (d : D) : rtn ss (some (.rt (.own d) ρ)) = some (.ret (.own d) (post ss ρ)) := rfl
theorem rtn_ex (ss : List S) (e : Xn) : rtn ss (some (.ex e ρ)) = some (.ex e (post ss ρ)) := rfl
theorem post_n : post [] ρ = [] := by cases ρ <;> rfl
theorem post_v (d : D) (ss : List S) (s : S) : post (.val d :: ss) (s :: ρ) = .val d :: post ss ρ := by cases s <;> rfl
theorem post_o (d e : D) (ss : List S) : post (.own d :: ss) (.own e :: ρ) = .own e :: post ss ρ := rfl
end
inductive Cf (E R : Type) where
 | nx (e : E) | ct (e : E) | bk (e : E) | rt (r : R)
def Cf.k {E R α : Type} (o : Cf E R) (f : E → α) (g : R → α) : α := match o with
 | .nx e => f e
 | .ct e => f e
 | .bk e => f e
 | .rt r => g r
def forT {α E R : Type} (body : α → E → Option (Cf E R)) : List α → E → Option (Cf E R)
 | [], e => some (.nx e)
 | x :: xs, e => (body x e).bind fun o => match o with
  | .nx e' => forT body xs e'
  | .ct e' => forT body xs e'
  | .bk e' => some (.nx e')
  | .rt r => some (.rt r)
def foldT {α E : Type} (body : α → E → Option E) : List α → E → Option E
 | [], e => some e
 | x :: xs, e => (body x e).bind fun e' => foldT body xs e'
def cfO {E R : Type} (st : E → List S) (rv : R → Rv) (rs : R → List S) : Cf E R → Os
 | .nx e => .nx (st e)
 | .ct e => .ct (st e)
 | .bk e => .bk (st e)
 | .rt r => .rt (rv r) (rs r)
def lpO {E R : Type} (st : E → List S) (rv : R → Rv) (rs : R → List S) (o : Cf E R) : Os := o.k (fun e => .nx (st e)) (fun r => .rt (rv r) (rs r))
section
variable {α E R : Type} {e : α → D} {st : E → List S} {rv : R → Rv} {rs : R → List S} {tg : D → List S → Option (List S)} {body : MS}
theorem forL_cf {tb : α → E → Option (Cf E R)} : ∀ (xs : List α) (env : E), (∀ x ∈ xs, ∀ env, (tg (e x) (st env)).bind body = (tb x env).bind fun o => some (cfO st rv rs o)) →
  forL tg body (xs.map e) (st env) = (forT tb xs env).bind fun o => some (lpO st rv rs o)
 | [], env, _ => rfl
 | x :: xs, env, h => by
  have h1 := h x List.mem_cons_self env
  have ih := fun env => forL_cf (tb := tb) xs env fun y hy => h y (List.mem_cons_of_mem _ hy)
  rw [List.map_cons]
  unfold forL forT
  cases q : tg (e x) (st env) with
  | none =>
   rw [q] at h1
   cases q2 : tb x env with
   | none => rfl
   | some o => rw [q2] at h1; cases h1
  | some ρ1 =>
   rw [q] at h1
   dsimp only [Option.bind] at h1 ⊢
   rw [h1]
   cases q2 : tb x env with
   | none => rfl
   | some o => cases o with
    | nx e' => exact ih e'
    | ct e' => exact ih e'
    | bk e' => rfl
    | rt r => rfl
theorem forL_fold {tb : α → E → Option E} : ∀ (xs : List α) (env : E), (∀ x ∈ xs, ∀ env, (tg (e x) (st env)).bind body = (tb x env).bind fun o => some (.nx (st o))) →
  forL tg body (xs.map e) (st env) = (foldT tb xs env).bind fun o => some (.nx (st o))
 | [], env, _ => rfl
 | x :: xs, env, h => by
  have h1 := h x List.mem_cons_self env
  have ih := fun env => forL_fold (tb := tb) xs env fun y hy => h y (List.mem_cons_of_mem _ hy)
  rw [List.map_cons]
  unfold forL foldT
  cases q : tg (e x) (st env) with
  | none =>
   rw [q] at h1
   cases q2 : tb x env with
   | none => rfl
   | some o => rw [q2] at h1; cases h1
  | some ρ1 =>
   rw [q] at h1
   dsimp only [Option.bind] at h1 ⊢
   rw [h1]
   cases q2 : tb x env with
   | none => rfl
   | some o => exact ih o
theorem sq_lpO (o : Cf E R) (g : MS) : sq (some (lpO st rv rs o)) g = o.k (fun e => g (st e)) (fun r => some (.rt (rv r) (rs r))) := by cases o <;> rfl
theorem aq_lpO (o : Cf E R) (l : List (Nat × Bool)) : aq l (some (lpO st rv rs o)) = o.k (fun e => some (.nx (nrm l (st e)))) (fun r => some (.rt (rv r) (rs r))) := by cases o <;> rfl
theorem sq_k (o : Cf E R) (f : E → Option Os) (h : R → Option Os) (g : MS) : sq (o.k f h) g = o.k (fun e => sq (f e) g) (fun r => sq (h r) g) := by cases o <;> rfl
theorem aq_k (o : Cf E R) (f : E → Option Os) (h : R → Option Os) (l : List (Nat × Bool)) : aq l (o.k f h) = o.k (fun e => aq l (f e)) (fun r => aq l (h r)) := by cases o <;> rfl
theorem rq_k (o : Cf E R) (f : E → Option Os) (h : R → Option Os) (l : List Nat) : rq l (o.k f h) = o.k (fun e => rq l (f e)) (fun r => rq l (h r)) := by cases o <;> rfl
theorem rtn_k (o : Cf E R) (f : E → Option Os) (h : R → Option Os) (ss : List S) : rtn ss (o.k f h) = o.k (fun e => rtn ss (f e)) (fun r => rtn ss (h r)) := by cases o <;> rfl
theorem ob_k {β γ : Type} (o : Cf E R) (f : E → Option β) (h : R → Option β) (g : β → Option γ) : (o.k f h).bind g = o.k (fun e => (f e).bind g) (fun r => (h r).bind g) := by cases o <;> rfl
theorem cfO_nx (x : E) : cfO st rv rs (.nx x) = .nx (st x) := rfl
theorem cfO_ct (x : E) : cfO st rv rs (.ct x) = .ct (st x) := rfl
theorem cfO_bk (x : E) : cfO st rv rs (.bk x) = .bk (st x) := rfl
theorem cfO_rt (x : R) : cfO st rv rs (.rt x) = .rt (rv x) (rs x) := rfl
end
def whF {E R : Type} (test : E → Option Bool) (body : E → Option (Cf E R)) : Nat → E → Option (Cf E R)
 | 0, _ => none
 | n + 1, e => (test e).bind fun b => if b = true then (body e).bind fun o => match o with
  | .nx e' => whF test body n e'
  | .ct e' => whF test body n e'
  | .bk e' => some (.nx e')
  | .rt r => some (.rt r) else some (.nx e)
section
variable {E R : Type} {test : E → Option Bool} {body : E → Option (Cf E R)}
theorem whF_mono : ∀ {n : Nat} {e : E} {o : Cf E R}, whF test body n e = some o → whF test body (n + 1) e = some o
 | 0, _, _, h => nomatch h
 | n + 1, e, o, h => by
  unfold whF at h ⊢
  cases q : test e with
  | none => rw [q] at h; cases h
  | some b =>
   rw [q] at h
   dsimp only [Option.bind] at h ⊢
   cases b with
   | false => exact h
   | true =>
    rw [if_pos rfl] at h ⊢
    cases q2 : body e with
    | none => rw [q2] at h; cases h
    | some c =>
     rw [q2] at h
     cases c with
     | nx e' => exact whF_mono (show whF test body n e' = some o from h)
     | ct e' => exact whF_mono (show whF test body n e' = some o from h)
     | bk e' => exact h
     | rt r => exact h
theorem whF_le {n m : Nat} (hle : n ≤ m) {e : E} {o : Cf E R} (h : whF test body n e = some o) : whF test body m e = some o := by
 induction hle with
 | refl => exact h
 | step _ ih => exact whF_mono ih
open Classical in
noncomputable def whT (test : E → Option Bool) (body : E → Option (Cf E R)) (e : E) : Option (Cf E R) := if h : ∃ n o, whF test body n e = some o then some (Classical.choose (Classical.choose_spec h)) else none
theorem whT_of {n : Nat} {e : E} {o : Cf E R} (h : whF test body n e = some o) : whT test body e = some o := by
 unfold whT
 have hx : ∃ n o, whF test body n e = some o := ⟨n, o, h⟩
 rw [dif_pos hx]
 have h2 := Classical.choose_spec (Classical.choose_spec hx)
 have a := whF_le (Nat.le_max_left n (Classical.choose hx)) h
 have b := whF_le (Nat.le_max_right n (Classical.choose hx)) h2
 rw [a] at b
 exact b.symm
theorem whT_some {e : E} {o : Cf E R} (h : whT test body e = some o) : ∃ n, whF test body n e = some o := by
 unfold whT at h
 split at h
 · rename_i hx
   cases h
   exact ⟨_, Classical.choose_spec (Classical.choose_spec hx)⟩
 · cases h
theorem whT_nx {e e' : E} (h1 : test e = some true) (h2 : body e = some (.nx e')) : whT test body e = whT test body e' := by
 cases q : whT test body e' with
 | some o =>
  obtain ⟨n, hn⟩ := whT_some q
  refine whT_of (n := n + 1) ?_
  unfold whF; rw [h1]; dsimp only [Option.bind]; rw [if_pos rfl, h2]; exact hn
 | none =>
  cases p : whT test body e with
  | none => rfl
  | some o =>
   exfalso
   obtain ⟨n, hn⟩ := whT_some p
   cases n with
   | zero => cases hn
   | succ n =>
    unfold whF at hn; rw [h1] at hn; dsimp only [Option.bind] at hn; rw [if_pos rfl, h2] at hn
    rw [whT_of hn] at q; cases q
theorem whT_end {e : E} (h1 : test e = some false) : whT test body e = some (.nx e) := whT_of (n := 1) (by unfold whF; rw [h1]; rfl)
theorem whT_rt {e : E} {r : R} (h1 : test e = some true) (h2 : body e = some (.rt r)) : whT test body e = some (.rt r) := whT_of (n := 1) (by unfold whF; rw [h1]; dsimp only [Option.bind]; rw [if_pos rfl, h2])
theorem whL_cf {st : E → List S} {rv : R → Rv} {rs : R → List S} {g : M Bool} {bd : MS} (h1 : ∀ env, g (st env) = (test env).bind fun b => some (.ok b (st env))) (h2 : ∀ env, bd (st env) = (body env).bind fun o => some (cfO st rv rs o)) (env : E) :
  whL g bd (st env) = (whT test body env).bind fun o => some (lpO st rv rs o) := by
 have a1 : ∀ n env, whN g bd n (st env) = (whF test body n env).bind fun o => some (lpO st rv rs o) := by
  intro n
  induction n with
  | zero => intro env; rfl
  | succ n ih =>
   intro env
   unfold whN whF
   rw [h1]
   cases test env with
   | none => rfl
   | some b =>
    cases b with
    | false => rfl
    | true =>
     dsimp only [Option.bind]
     rw [h2, if_pos rfl]
     cases body env with
     | none => rfl
     | some o => cases o with
      | nx e' => exact ih e'
      | ct e' => exact ih e'
      | bk e' => rfl
      | rt r => rfl
 cases q : whT test body env with
 | some o =>
  obtain ⟨n, hn⟩ := whT_some q
  refine whL_of (n := n) ?_
  rw [a1, hn]; rfl
 | none =>
  cases p : whL g bd (st env) with
  | none => rfl
  | some o =>
   exfalso
   obtain ⟨n, hn⟩ := whL_some p
   rw [a1] at hn
   cases q2 : whF test body n env with
   | none => rw [q2] at hn; cases hn
   | some o2 => rw [whT_of q2] at q; cases q
end
def lcS (tg : D → List S → Option (List S)) (tt : M Bool) (te : M Rv) (vs : List Nat) (d : D) (ρ : List S) : Option (Option D × List S) :=
 (tg d (wipeS ρ vs)).bind fun ρ1 => cps tt ρ1 (fun _ _ => none) fun b ρ2 => if b = true then cps te ρ2 (fun _ _ => none) fun r ρ3 => cps (toV r) ρ3 (fun _ _ => none) fun e ρ4 => some (some e, backS ρ ρ4 vs) else some (none, backS ρ ρ2 vs)
theorem lcS_eq (tg : D → List S → Option (List S)) (tt : M Bool) (te : M Rv) (vs : List Nat) (d : D) (ds acc : List D) (ρ : List S) :
  lcL tg tt te vs (d :: ds) acc ρ = (lcS tg tt te vs d ρ).bind fun p => lcL tg tt te vs ds (match p.1 with | some e => acc ++ [e] | none => acc) p.2 := by
 have e1 : lcL tg tt te vs (d :: ds) acc ρ = (match tg d (wipeS ρ vs) with
  | none => none
  | some ρ1 => match tt ρ1 with
   | some (.ok false ρ2) => lcL tg tt te vs ds acc (backS ρ ρ2 vs)
   | some (.ok true ρ2) => match (te >>= toV) ρ2 with
    | some (.ok e ρ3) => lcL tg tt te vs ds (acc ++ [e]) (backS ρ ρ3 vs)
    | _ => none
   | _ => none) := rfl
 rw [e1]
 unfold lcS
 cases tg d (wipeS ρ vs) with
 | none => rfl
 | some ρ1 =>
  dsimp only [Option.bind]
  unfold cps
  cases tt ρ1 with
  | none => rfl
  | some o =>
   cases o with
   | ex e ρ' => rfl
   | ok b ρ2 =>
    cases b with
    | false => rfl
    | true =>
     dsimp only
     rw [if_pos rfl, bind_eq]
     cases te ρ2 with
     | none => rfl
     | some o =>
      cases o with
      | ex e ρ' => rfl
      | ok r ρ3 =>
       dsimp only
       cases toV r ρ3 with
       | none => rfl
       | some o => cases o <;> rfl
def mapT {α β : Type} (f : α → Option β) : List α → Option (List β)
 | [] => some []
 | x :: xs => (f x).bind fun y => (mapT f xs).bind fun ys => some (y :: ys)
def mapF {α β : Type} (f : α → Option (Option β)) : List α → Option (List β)
 | [] => some []
 | x :: xs => (f x).bind fun y => (mapF f xs).bind fun ys => some (match y with | some y => y :: ys | none => ys)
def mapE {α β E : Type} (f : α → E → Option (β × E)) : List α → E → Option (List β × E)
 | [], e => some ([], e)
 | x :: xs, e => (f x e).bind fun y => (mapE f xs y.2).bind fun ys => some (y.1 :: ys.1, ys.2)
section
variable {α β E γ : Type} {e : α → D} {e' : β → D} {st : E → List S} {tg : D → List S → Option (List S)} {tt : M Bool} {te : M Rv} {vs : List Nat} {ρ : List S} {it : M (List D)} {kx : Xn → List S → Option γ} {k : Rv → List S → Option γ}
theorem lcL_T {f : α → Option β} : ∀ (xs : List α) (acc : List D), (∀ x, lcS tg tt te vs (e x) ρ = (f x).bind fun y => some (some (e' y), ρ)) → lcL tg tt te vs (xs.map e) acc ρ = (mapT f xs).bind fun ys => some (.ok (acc ++ ys.map e') ρ)
 | [], acc, _ => by rw [List.map_nil]; show some _ = some _; rw [List.map_nil, List.append_nil]
 | x :: xs, acc, h => by
  rw [List.map_cons, lcS_eq, h x]
  unfold mapT
  cases f x with
  | none => rfl
  | some y =>
   dsimp only [Option.bind]
   rw [lcL_T xs _ h]
   cases mapT f xs with
   | none => rfl
   | some ys => dsimp only [Option.bind]; rw [List.map_cons, List.append_assoc]; rfl
theorem lcL_P {f : α → β} (xs : List α) (acc : List D) (h : ∀ x, lcS tg tt te vs (e x) ρ = some (some (e' (f x)), ρ)) : lcL tg tt te vs (xs.map e) acc ρ = some (.ok (acc ++ (xs.map f).map e') ρ) := by
 induction xs generalizing acc with
 | nil => rw [List.map_nil, List.map_nil, List.map_nil, List.append_nil]; rfl
 | cons x xs ih =>
  rw [List.map_cons, lcS_eq, h x]
  dsimp only [Option.bind]
  rw [ih, List.map_cons, List.map_cons, List.append_assoc]; rfl
theorem lcL_Q {p : α → Bool} {f : α → β} (xs : List α) (acc : List D) (h : ∀ x, lcS tg tt te vs (e x) ρ = if p x = true then some (some (e' (f x)), ρ) else some (none, ρ)) : lcL tg tt te vs (xs.map e) acc ρ = some (.ok (acc ++ ((xs.filter p).map f).map e') ρ) := by
 induction xs generalizing acc with
 | nil => rw [List.map_nil, List.filter_nil, List.map_nil, List.map_nil, List.append_nil]; rfl
 | cons x xs ih =>
  rw [List.map_cons, lcS_eq, h x]
  cases hp : p x with
  | true =>
   rw [if_pos rfl, List.filter_cons_of_pos hp]
   dsimp only [Option.bind]
   rw [ih, List.map_cons, List.map_cons, List.append_assoc]; rfl
  | false =>
   rw [if_neg Bool.false_ne_true, List.filter_cons_of_neg (by rw [hp]; exact Bool.false_ne_true)]
   dsimp only [Option.bind]
   rw [ih]
theorem lcL_F {f : α → Option (Option β)} : ∀ (xs : List α) (acc : List D), (∀ x, lcS tg tt te vs (e x) ρ = (f x).bind fun y => some (y.map e', ρ)) → lcL tg tt te vs (xs.map e) acc ρ = (mapF f xs).bind fun ys => some (.ok (acc ++ ys.map e') ρ)
 | [], acc, _ => by rw [List.map_nil]; show some _ = some _; rw [List.map_nil, List.append_nil]
 | x :: xs, acc, h => by
  rw [List.map_cons, lcS_eq, h x]
  unfold mapF
  cases f x with
  | none => rfl
  | some y =>
   dsimp only [Option.bind]
   rw [lcL_F xs _ h]
   cases mapF f xs with
   | none => rfl
   | some ys =>
    cases y with
    | none => rfl
    | some y => dsimp only [Option.bind, Option.map]; rw [List.map_cons, List.append_assoc]; rfl
theorem lcL_E {f : α → E → Option (β × E)} : ∀ (xs : List α) (acc : List D) (env : E), (∀ x env, lcS tg tt te vs (e x) (st env) = (f x env).bind fun y => some (some (e' y.1), st y.2)) → lcL tg tt te vs (xs.map e) acc (st env) = (mapE f xs env).bind fun ys => some (.ok (acc ++ ys.1.map e') (st ys.2))
 | [], acc, env, _ => by rw [List.map_nil]; show some _ = some _; rw [List.map_nil, List.append_nil]
 | x :: xs, acc, env, h => by
  rw [List.map_cons, lcS_eq, h x]
  unfold mapE
  cases f x env with
  | none => rfl
  | some y =>
   dsimp only [Option.bind]
   rw [lcL_E xs _ _ h]
   cases mapE f xs y.2 with
   | none => rfl
   | some ys => dsimp only [Option.bind]; rw [List.map_cons, List.append_assoc]; rfl
theorem cps_no {α : Type} {f : M α} {k : α → List S → Option γ} : cps (fun ρ => if noOwn ρ vs = true then f ρ else none) ρ kx k = if noOwn ρ vs = true then cps f ρ kx k else none := by
 have e : (fun ρ => if noOwn ρ vs = true then f ρ else none : M α) ρ = if noOwn ρ vs = true then f ρ else none := rfl
 unfold cps
 rw [e]
 by_cases h : noOwn ρ vs = true
 · rw [if_pos h, if_pos h]
 · rw [if_neg h, if_neg h]
theorem cps_lc : cps (eLc it tg tt te vs) ρ kx k = cps it ρ kx fun ds ρ1 => if noOwn ρ1 vs = true then cps (lcL tg tt te vs ds []) ρ1 kx fun acc ρ2 => k (.own (.lst acc)) ρ2 else none := by
 unfold eLc; refine (cps_bind _ _ k).trans ?_
 congr 1; funext ds ρ1
 refine (cps_bind _ _ k).trans ?_
 exact cps_no (f := lcL tg tt te vs ds [])
theorem noOwn_n : noOwn ρ [] = true := rfl
theorem noOwn_c (v : Nat) : noOwn ρ (v :: vs) = (!isOwn ρ[v]? && noOwn ρ vs) := rfl
theorem isOwn_o (d : D) : isOwn (some (.own d)) = true := rfl
theorem isOwn_v (d : D) : isOwn (some (.val d)) = false := rfl
theorem isOwn_n : isOwn (some .no) = false := rfl
theorem wipe_n : wipeS ρ [] = ρ := rfl
theorem wipe_c (v : Nat) : wipeS ρ (v :: vs) = (wipeS ρ vs).set v .no := rfl
theorem back_n' (ρ0 : List S) : backS ρ0 ρ [] = ρ := rfl
theorem back_c' (ρ0 : List S) (v : Nat) : backS ρ0 ρ (v :: vs) = (backS ρ0 ρ vs).set v (ρ0.getD v .no) := rfl
theorem cps_lcT {f : α → Option β} (xs : List α) (h : ∀ x, lcS tg tt te vs (e x) ρ = (f x).bind fun y => some (some (e' y), ρ)) (h' : List D → List S → Option γ) : cps (lcL tg tt te vs (xs.map e) []) ρ kx h' = (mapT f xs).bind fun ys => h' (ys.map e') ρ := by
 unfold cps; rw [lcL_T xs [] h]; cases mapT f xs <;> rfl
theorem cps_lcP {f : α → β} (xs : List α) (h : ∀ x, lcS tg tt te vs (e x) ρ = some (some (e' (f x)), ρ)) (h' : List D → List S → Option γ) : cps (lcL tg tt te vs (xs.map e) []) ρ kx h' = h' ((xs.map f).map e') ρ := by
 unfold cps; rw [lcL_P xs [] h]; rfl
theorem cps_lcQ {p : α → Bool} {f : α → β} (xs : List α) (h : ∀ x, lcS tg tt te vs (e x) ρ = if p x = true then some (some (e' (f x)), ρ) else some (none, ρ)) (h' : List D → List S → Option γ) : cps (lcL tg tt te vs (xs.map e) []) ρ kx h' = h' (((xs.filter p).map f).map e') ρ := by
 unfold cps; rw [lcL_Q xs [] h]; rfl
theorem cps_lcF {f : α → Option (Option β)} (xs : List α) (h : ∀ x, lcS tg tt te vs (e x) ρ = (f x).bind fun y => some (y.map e', ρ)) (h' : List D → List S → Option γ) : cps (lcL tg tt te vs (xs.map e) []) ρ kx h' = (mapF f xs).bind fun ys => h' (ys.map e') ρ := by
 unfold cps; rw [lcL_F xs [] h]; cases mapF f xs <;> rfl
theorem cps_lcE {f : α → E → Option (β × E)} (xs : List α) (env : E) (h : ∀ x env, lcS tg tt te vs (e x) (st env) = (f x env).bind fun y => some (some (e' y.1), st y.2)) (h' : List D → List S → Option γ) : cps (lcL tg tt te vs (xs.map e) []) (st env) kx h' = (mapE f xs env).bind fun ys => h' (ys.1.map e') (st ys.2) := by
 unfold cps; rw [lcL_E xs [] env h]; cases mapE f xs env <;> rfl
end
end Tl
namespace Tl
open PySem Dl
open L2 (ixN atI)
theorem add_ii (i j : Int) : dAdd (.int i) (.int j) = some (.val (.int (i + j))) := rfl
theorem add_tt (xs ys : List D) : dAdd (.tup xs) (.tup ys) = (gz (xs.length + ys.length)).bind fun _ => some (.val (.tup (xs ++ ys))) := by
 show ((none : Option Rv).or ((if xs.length + ys.length ≤ sizeLine then some (Rv.val (.tup (xs ++ ys))) else none).or (none.or none))) = _
 unfold gz; split <;> rfl
theorem add_ll (xs ys : List D) : dAdd (.lst xs) (.lst ys) = (gz (xs.length + ys.length)).bind fun _ => some (.own (.lst (xs ++ ys))) := by
 show ((none : Option Rv).or ((none : Option Rv).or ((if xs.length + ys.length ≤ sizeLine then some (Rv.own (.lst (xs ++ ys))) else none).or none))) = _
 unfold gz; split <;> rfl
theorem sub_ii (i j : Int) : dSub (.int i) (.int j) = some (.val (.int (i - j))) := rfl
theorem mul_ii (i j : Int) : dMul (.int i) (.int j) = (gb (mulOk i j)).bind fun _ => some (.val (.int (i * j))) := by
 show (if mulOk i j = true then some (Rv.val (.int (i * j))) else none) = _
 unfold gb; split <;> rfl
theorem div_ii (i j : Int) : dDiv (.int i) (.int j) = (gb (divOk i j)).bind fun _ => some (.val (.int (i / j))) := by
 show (if divOk i j = true then some (Rv.val (.int (i / j))) else none) = _
 unfold gb; split <;> rfl
theorem mod_ii (i j : Int) : dMod (.int i) (.int j) = (gb (modOk i j)).bind fun _ => some (.val (.int (i % j))) := by
 show (if modOk i j = true then some (Rv.val (.int (i % j))) else none) = _
 unfold gb; split <;> rfl
theorem pow_ii (i j : Int) : dPow (.int i) (.int j) = (gb (powOk i j)).bind fun _ => some (.val (.int (i ^ j.toNat))) := by
 show (if powOk i j = true then some (Rv.val (.int (i ^ j.toNat))) else none) = _
 unfold gb; split <;> rfl
theorem mulOk_r {i j : Int} (h : decide (-(2 ^ 64) < j ∧ j < 2 ^ 64) = true) : mulOk i j = true := by unfold mulOk; rw [h, Bool.or_true]
theorem divOk_l {i j : Int} (h : decide (0 < j ∧ j < 2 ^ 64) = true) : divOk i j = true := h
theorem modOk_l {i j : Int} (h : decide (0 < j) = true) : modOk i j = true := h
theorem lt_ii (i j : Int) : dLt (.int i) (.int j) = some (.val (.bl (decide (i < j)))) := rfl
theorem le_ii (i j : Int) : dLe (.int i) (.int j) = some (.val (.bl (decide (i ≤ j)))) := rfl
theorem gt_ii (i j : Int) : dGt (.int i) (.int j) = some (.val (.bl (decide (j < i)))) := rfl
theorem ge_ii (i j : Int) : dGe (.int i) (.int j) = some (.val (.bl (decide (j ≤ i)))) := rfl
def eO {α : Type} (e : α → D) : Option α → D
 | none => .non
 | some a => e a
theorem eO_none {α : Type} (e : α → D) : eO e none = .non := rfl
theorem eO_some {α : Type} (e : α → D) (a : α) : eO e (some a) = e a := rfl
theorem lt_io (i : Int) (o : Option Int) : dLt (.int i) (eO D.int o) = o.bind fun j => some (.val (.bl (decide (i < j)))) := by cases o <;> rfl
theorem gt_io (i : Int) (o : Option Int) : dGt (.int i) (eO D.int o) = o.bind fun j => some (.val (.bl (decide (j < i)))) := by cases o <;> rfl
theorem lt_oi (i : Int) (o : Option Int) : dLt (eO D.int o) (.int i) = o.bind fun j => some (.val (.bl (decide (j < i)))) := by cases o <;> rfl
theorem gt_oi (i : Int) (o : Option Int) : dGt (eO D.int o) (.int i) = o.bind fun j => some (.val (.bl (decide (i < j)))) := by cases o <;> rfl
theorem is_oi (o : Option Int) : dIsN (eO D.int o) .non = some (.val (.bl o.isNone)) := by cases o <;> rfl
theorem isn_oi (o : Option Int) : dNotN (eO D.int o) .non = some (.val (.bl (!o.isNone))) := by cases o <;> rfl
theorem is_ot {α : Type} (f : α → List D) (o : Option α) : dIsN (eO (fun x => .tup (f x)) o) .non = some (.val (.bl o.isNone)) := by cases o <;> rfl
theorem isn_ot {α : Type} (f : α → List D) (o : Option α) : dNotN (eO (fun x => .tup (f x)) o) .non = some (.val (.bl (!o.isNone))) := by cases o <;> rfl
theorem sca_oi (o : Option Int) : scaD (eO D.int o) = true := by cases o <;> rfl
theorem sca_ob' (o : Option Bool) : scaD (eO D.bl o) = true := by cases o <;> rfl
theorem is_bb (a b : Bool) : dIsN (.bl a) (.bl b) = some (.val (.bl (decide (a = b)))) := rfl
theorem isn_bb (a b : Bool) : dNotN (.bl a) (.bl b) = some (.val (.bl (!decide (a = b)))) := rfl
theorem is_nn : dIsN .non .non = some (.val (.bl true)) := rfl
theorem is_in (i : Int) : dIsN (.int i) .non = some (.val (.bl false)) := rfl
theorem is_ln (i : List D) : dIsN (.lst i) .non = some (.val (.bl false)) := rfl
theorem is_tn (i : List D) : dIsN (.tup i) .non = some (.val (.bl false)) := rfl
theorem is_on (c : Str) (ns : List Str) (i : List D) : dIsN (.obj c ns i) .non = some (.val (.bl false)) := rfl
theorem isn_nn : dNotN .non .non = some (.val (.bl false)) := rfl
theorem isn_in (i : Int) : dNotN (.int i) .non = some (.val (.bl true)) := rfl
theorem isn_ln (i : List D) : dNotN (.lst i) .non = some (.val (.bl true)) := rfl
theorem isn_tn (i : List D) : dNotN (.tup i) .non = some (.val (.bl true)) := rfl
theorem isn_on (c : Str) (ns : List Str) (i : List D) : dNotN (.obj c ns i) .non = some (.val (.bl true)) := rfl
def eSq {α : Type} (e : α → D) (s : Bool × List α) : D := if s.1 = true then .tup (s.2.map e) else .lst (s.2.map e)
theorem it_sq {α : Type} (e : α → D) (s : Bool × List α) : items (eSq e s) = some (s.2.map e) := by
 unfold eSq; split <;> rfl
theorem eSq_t {α : Type} (e : α → D) (xs : List α) : eSq e (true, xs) = .tup (xs.map e) := rfl
theorem eSq_l {α : Type} (e : α → D) (xs : List α) : eSq e (false, xs) = .lst (xs.map e) := rfl
theorem len_sq {α : Type} (e : α → D) (s : Bool × List α) : gLen [eSq e s] = some (.val (.int s.2.length)) := by
 unfold eSq
 split <;> (show some (Rv.val (D.int ((s.2.map e).length : Nat))) = _; rw [List.length_map])
structure PD {α : Type} [DecidableEq α] (e : α → D) (p : α → PyData) (n : Nat) : Prop where
 to : ∀ a, toP (e a) = some (p a)
 lay : ∀ a, PyData.canLay0 (p a) = true
 dep : ∀ a, PyData.depth (p a) ≤ n
 eqv : ∀ a b, PyData.eqv (p a) (p b) = decide (a = b)
section
variable {α β : Type} [DecidableEq α] [DecidableEq β] {e : α → D} {p : α → PyData} {e' : β → D} {p' : β → PyData} {n m : Nat}
theorem pd_int : PD D.int PyData.int 0 := ⟨fun a => by unfold toP; rfl, fun a => by simp [PyData.canLay0], fun a => by simp [PyData.depth], fun a b => by simp only [PyData.eqv]; rw [Bool.eq_iff_iff, beq_iff_eq, decide_eq_true_eq]⟩
theorem pd_bl : PD D.bl PyData.bool 0 := ⟨fun a => by unfold toP; rfl, fun a => by simp [PyData.canLay0], fun a => by simp [PyData.depth], fun a b => by simp only [PyData.eqv]; rw [Bool.eq_iff_iff, beq_iff_eq, decide_eq_true_eq]⟩
theorem PD.tos (h : PD e p n) : ∀ xs : List α, toPs (xs.map e) = some (xs.map p)
 | [] => by simp [toPs]
 | x :: xs => by
  rw [List.map_cons]
  unfold toPs
  rw [h.to x, PD.tos h xs]; rfl
theorem PD.lays (h : PD e p n) : ∀ xs : List α, PyData.canLayAll0 (xs.map p) = true
 | [] => by simp [PyData.canLayAll0]
 | x :: xs => by rw [List.map_cons]; unfold PyData.canLayAll0; rw [h.lay x, PD.lays h xs]; rfl
theorem PD.deps (h : PD e p n) : ∀ xs : List α, PyData.depthAll (xs.map p) ≤ n
 | [] => by simp [PyData.depthAll]
 | x :: xs => by
  have h1 := h.dep x
  have h2 := PD.deps h xs
  rw [List.map_cons]; unfold PyData.depthAll; omega
theorem PD.eqvs (h : PD e p n) : ∀ xs ys : List α, PyData.eqvAll (xs.map p) (ys.map p) = decide (xs = ys)
 | [], [] => by simp [PyData.eqvAll]
 | [], y :: ys => by simp [PyData.eqvAll]
 | x :: xs, [] => by simp [PyData.eqvAll]
 | x :: xs, y :: ys => by
  rw [List.map_cons, List.map_cons]
  unfold PyData.eqvAll
  rw [h.eqv x y, PD.eqvs h xs ys, Bool.eq_iff_iff]
  simp
theorem PD.lst (h : PD e p n) : PD (fun xs : List α => .lst (xs.map e)) (fun xs => .list (xs.map p)) (n + 1) := ⟨fun a => by unfold toP; rw [h.tos]; rfl, fun a => by unfold PyData.canLay0; exact h.lays a, fun a => by unfold PyData.depth; have := h.deps a; omega, fun a b => by unfold PyData.eqv; exact h.eqvs a b⟩
theorem PD.tup (h : PD e p n) : PD (fun xs : List α => .tup (xs.map e)) (fun xs => .tuple (xs.map p)) (n + 1) := ⟨fun a => by unfold toP; rw [h.tos]; rfl, fun a => by unfold PyData.canLay0; exact h.lays a, fun a => by unfold PyData.depth; have := h.deps a; omega, fun a b => by unfold PyData.eqv; exact h.eqvs a b⟩
theorem PD.shaped (h : PD e p n) (hn : n ≤ 64) (a : α) : SeqAt.shaped (p a) = true := by
 unfold SeqAt.shaped
 rw [h.lay a, decide_eq_true (Nat.le_trans (h.dep a) hn)]; rfl
theorem PD.eq (h : PD e p n) (hn : n ≤ 64) (a b : α) : dEq (e a) (e b) = some (.val (.bl (decide (a = b)))) := by
 unfold dEq dEqB
 rw [h.to a, h.to b]
 dsimp only
 rw [h.shaped hn a, h.shaped hn b, h.eqv]; rfl
theorem PD.ne (h : PD e p n) (hn : n ≤ 64) (a b : α) : dNe (e a) (e b) = some (.val (.bl (!decide (a = b)))) := by
 unfold dNe dEqB
 rw [h.to a, h.to b]
 dsimp only
 rw [h.shaped hn a, h.shaped hn b, h.eqv]; rfl
theorem PD.any (h : PD e p n) (a : α) : ∀ xs : List α, ((xs.map p).any fun z => PyData.eqv z (p a)) = decide (a ∈ xs)
 | [] => by simp
 | x :: xs => by
  rw [List.map_cons, List.any_cons, PD.any h a xs, h.eqv, Bool.eq_iff_iff]
  simp only [Bool.or_eq_true, decide_eq_true_eq, List.mem_cons]
  constructor
  · rintro (z | z)
    · exact .inl z.symm
    · exact .inr z
  · rintro (z | z)
    · exact .inl z.symm
    · exact .inr z
theorem PD.deep (h : PD e p n) (hn : n < 64) (a : α) (xs : List α) : dInDeep (e a) (.lst (xs.map e)) = some (decide (a ∈ xs)) := by
 unfold dInDeep
 dsimp only
 rw [h.to a, h.tos xs]
 dsimp only
 rw [h.shaped (by omega) a, show SeqAt.shaped (.list (xs.map p)) = true from h.lst.shaped (by omega) xs, h.any]; rfl
theorem PD.inL (h : PD e p n) (hn : n < 64) (hf : ∀ a, flD (e a) = false) (a : α) (xs : List α) : dIn2 (e a) (.lst (xs.map e)) = some (.val (.bl (decide (a ∈ xs)))) := by
 have h1 : dIn (e a) (.lst (xs.map e)) = none := by unfold dIn dInB; simp only [items, hf, Bool.false_and]; rfl
 unfold dIn2 dInD; rw [h1, h.deep hn]; rfl
theorem PD.notInL (h : PD e p n) (hn : n < 64) (hf : ∀ a, flD (e a) = false) (a : α) (xs : List α) : dNotIn2 (e a) (.lst (xs.map e)) = some (.val (.bl (!decide (a ∈ xs)))) := by
 have h1 : dNotIn (e a) (.lst (xs.map e)) = none := by unfold dNotIn dInB; simp only [items, hf, Bool.false_and]; rfl
 unfold dNotIn2 dNotInD; rw [h1, h.deep hn]; rfl
end
theorem eq_ii (a b : Int) : dEq (.int a) (.int b) = some (.val (.bl (decide (a = b)))) := pd_int.eq (by decide) a b
theorem ne_ii (a b : Int) : dNe (.int a) (.int b) = some (.val (.bl (!decide (a = b)))) := pd_int.ne (by decide) a b
theorem eq_bb (a b : Bool) : dEq (.bl a) (.bl b) = some (.val (.bl (decide (a = b)))) := pd_bl.eq (by decide) a b
theorem ne_bb (a b : Bool) : dNe (.bl a) (.bl b) = some (.val (.bl (!decide (a = b)))) := pd_bl.ne (by decide) a b
theorem eq_li (a b : List Int) : dEq (.lst (a.map .int)) (.lst (b.map .int)) = some (.val (.bl (decide (a = b)))) := pd_int.lst.eq (by decide) a b
theorem ne_li (a b : List Int) : dNe (.lst (a.map .int)) (.lst (b.map .int)) = some (.val (.bl (!decide (a = b)))) := pd_int.lst.ne (by decide) a b
theorem eq_ti (a b : List Int) : dEq (.tup (a.map .int)) (.tup (b.map .int)) = some (.val (.bl (decide (a = b)))) := pd_int.tup.eq (by decide) a b
theorem ne_ti (a b : List Int) : dNe (.tup (a.map .int)) (.tup (b.map .int)) = some (.val (.bl (!decide (a = b)))) := pd_int.tup.ne (by decide) a b
theorem eq_l0 (a : List Int) : dEq (.lst (a.map .int)) (.lst []) = some (.val (.bl (decide (a = [])))) := pd_int.lst.eq (by decide) a []
theorem ne_l0 (a : List Int) : dNe (.lst (a.map .int)) (.lst []) = some (.val (.bl (!decide (a = [])))) := pd_int.lst.ne (by decide) a []
theorem fl_ints : ∀ ns : List Int, (ns.map D.int).all flD = true
 | [] => rfl
 | n :: ns => by rw [List.map_cons, List.all_cons, fl_ints ns]; rfl
theorem any_ints (n : Int) : ∀ ns : List Int, ((ns.map D.int).any fun z => feq z (.int n)) = decide (n ∈ ns)
 | [] => by simp
 | m :: ns => by
  rw [List.map_cons, List.any_cons, any_ints n ns]
  show ((m == n) || _) = _
  rw [Bool.eq_iff_iff]
  simp only [Bool.or_eq_true, beq_iff_eq, decide_eq_true_eq, List.mem_cons]
  constructor
  · rintro (h | h)
    · exact .inl h.symm
    · exact .inr h
  · rintro (h | h)
    · exact .inl h.symm
    · exact .inr h
theorem inB_i (n : Int) (ns : List Int) {d : D} (h : items d = some (ns.map .int)) : dInB (.int n) d = some (decide (n ∈ ns)) := by
 unfold dInB
 rw [h]
 dsimp only
 rw [fl_ints, any_ints]; rfl
theorem in_i (n : Int) (ns : List Int) {d : D} (h : items d = some (ns.map .int)) : dIn2 (.int n) d = some (.val (.bl (decide (n ∈ ns)))) := by
 unfold dIn2 dIn; rw [inB_i n ns h]; rfl
theorem notIn_i (n : Int) (ns : List Int) {d : D} (h : items d = some (ns.map .int)) : dNotIn2 (.int n) d = some (.val (.bl (!decide (n ∈ ns)))) := by
 unfold dNotIn2 dNotIn; rw [inB_i n ns h]; rfl
theorem in_il (n : Int) (ns : List Int) : dIn2 (.int n) (.lst (ns.map .int)) = some (.val (.bl (decide (n ∈ ns)))) := in_i n ns rfl
theorem in_it (n : Int) (ns : List Int) : dIn2 (.int n) (.tup (ns.map .int)) = some (.val (.bl (decide (n ∈ ns)))) := in_i n ns rfl
theorem in_is (n : Int) (ns : Bool × List Int) : dIn2 (.int n) (eSq D.int ns) = some (.val (.bl (decide (n ∈ ns.2)))) := in_i n ns.2 (it_sq _ _)
theorem notIn_il (n : Int) (ns : List Int) : dNotIn2 (.int n) (.lst (ns.map .int)) = some (.val (.bl (!decide (n ∈ ns)))) := notIn_i n ns rfl
theorem notIn_it (n : Int) (ns : List Int) : dNotIn2 (.int n) (.tup (ns.map .int)) = some (.val (.bl (!decide (n ∈ ns)))) := notIn_i n ns rfl
theorem notIn_is (n : Int) (ns : Bool × List Int) : dNotIn2 (.int n) (eSq D.int ns) = some (.val (.bl (!decide (n ∈ ns.2)))) := notIn_i n ns.2 (it_sq _ _)
theorem in_rl (r : List Int) (rs : List (List Int)) : dIn2 (.tup (r.map .int)) (.lst (rs.map fun r => .tup (r.map .int))) = some (.val (.bl (decide (r ∈ rs)))) := (pd_int.tup.inL (by decide) (fun _ => rfl) r rs).trans (by congr)
theorem notIn_rl (r : List Int) (rs : List (List Int)) : dNotIn2 (.tup (r.map .int)) (.lst (rs.map fun r => .tup (r.map .int))) = some (.val (.bl (!decide (r ∈ rs)))) := (pd_int.tup.notInL (by decide) (fun _ => rfl) r rs).trans (by congr)
theorem tru_n : truD .non = some false := rfl
theorem tru_b (b : Bool) : truD (.bl b) = some b := rfl
theorem tru_i (i : Int) : truD (.int i) = some (i != 0) := rfl
theorem tru_l (xs : List D) : truD (.lst xs) = some (!xs.isEmpty) := rfl
theorem tru_t (xs : List D) : truD (.tup xs) = some (!xs.isEmpty) := rfl
theorem ix_l (ds : List D) (i : Int) : dIx (.lst ds) (.int i) = (atI ds i).bind fun d => some (.val d) := by
 show (atI ds i).map Rv.val = _; cases atI ds i <;> rfl
theorem ix_t (ds : List D) (i : Int) : dIx (.tup ds) (.int i) = (atI ds i).bind fun d => some (.val d) := by
 show (atI ds i).map Rv.val = _; cases atI ds i <;> rfl
theorem ix_lc (d : D) (ds : List D) (i : Int) : dIx (.lst (d :: ds)) (.int i) = (atI (d :: ds) i).bind fun d => some (.val d) := ix_l _ i
theorem ix_tc (d : D) (ds : List D) (i : Int) : dIx (.tup (d :: ds)) (.int i) = (atI (d :: ds) i).bind fun d => some (.val d) := ix_t _ i
theorem ix_lm {α : Type} (e : α → D) (xs : List α) (i : Int) : dIx (.lst (xs.map e)) (.int i) = (atI xs i).bind fun a => some (.val (e a)) := by
 rw [ix_l, atI_map]; cases atI xs i <;> rfl
theorem ix_tm {α : Type} (e : α → D) (xs : List α) (i : Int) : dIx (.tup (xs.map e)) (.int i) = (atI xs i).bind fun a => some (.val (e a)) := by
 rw [ix_t, atI_map]; cases atI xs i <;> rfl
theorem ix_sm {α : Type} (e : α → D) (xs : Bool × List α) (i : Int) : dIx (eSq e xs) (.int i) = (atI xs.2 i).bind fun a => some (.val (e a)) := by
 unfold eSq; split
 · exact ix_tm e xs.2 i
 · exact ix_lm e xs.2 i
theorem ix_sc (ns : List Int) (i : Int) : dIx (.scr ns) (.int i) = (atI ns i).bind fun n => some (.val (.int n)) := by
 show (atI ns i).map _ = _; cases atI ns i <;> rfl
theorem atI_map' {α β : Type} (f : α → β) (xs : List α) (i : Int) : atI (xs.map f) i = (atI xs i).bind fun a => some (f a) := by
 rw [atI_map]; cases atI xs i <;> rfl
theorem atI_nat {α : Type} {xs : List α} {k : Nat} : atI xs (k : Int) = xs[k]? := by
 unfold atI ixN
 rw [if_pos (Int.natCast_nonneg k)]
 by_cases h : k < xs.length
 · rw [if_pos (by omega), Int.toNat_natCast]; rfl
 · rw [if_neg (by omega), List.getElem?_eq_none (by omega)]; rfl
theorem at0 {α : Type} (x : α) (xs : List α) : atI (x :: xs) 0 = some x := atI_nat (k := 0)
theorem at1 {α : Type} (x y : α) (xs : List α) : atI (x :: y :: xs) 1 = some y := atI_nat (k := 1)
theorem at2 {α : Type} (x y z : α) (xs : List α) : atI (x :: y :: z :: xs) 2 = some z := atI_nat (k := 2)
theorem at3 {α : Type} (x y z w : α) (xs : List α) : atI (x :: y :: z :: w :: xs) 3 = some w := atI_nat (k := 3)
def setT {α : Type} (xs : List α) (i : Int) (a : α) : Option (List α) := (ixN xs.length i).bind fun n => some (xs.set n a)
theorem set_map {α : Type} (e : α → D) (xs : List α) (n : Nat) (a : α) : (xs.map e).set n (e a) = (xs.set n a).map e := List.map_set.symm
theorem cutD_map {α : Type} (e : α → D) (xs : List α) (lo hi : Option Int) : cutD (xs.map e) lo hi = (cutD xs lo hi).map e := by
 unfold cutD; rw [List.length_map, List.map_take, List.map_drop]
theorem sl_l {α : Type} (e : α → D) (xs : List α) (lo hi : Option Int) : dSl (.lst (xs.map e)) lo hi = some (.own (.lst ((cutD xs lo hi).map e))) := by
 show some (Rv.own (.lst (cutD (xs.map e) lo hi))) = _; rw [cutD_map]
theorem sl_t {α : Type} (e : α → D) (xs : List α) (lo hi : Option Int) : dSl (.tup (xs.map e)) lo hi = some (.val (.tup ((cutD xs lo hi).map e))) := by
 show some (Rv.val (.tup (cutD (xs.map e) lo hi))) = _; rw [cutD_map]
theorem len_l (xs : List D) : gLen [.lst xs] = some (.val (.int xs.length)) := rfl
theorem len_t (xs : List D) : gLen [.tup xs] = some (.val (.int xs.length)) := rfl
theorem len_s (xs : List Int) : gLen [.scr xs] = some (.val (.int xs.length)) := rfl
theorem int_i (i : Int) : gInt [.int i] = some (.val (.int i)) := rfl
theorem int_b (b : Bool) : gInt [.bl b] = some (.val (.int (if b then 1 else 0))) := rfl
theorem max_ii (i j : Int) : gMax2 [.int i, .int j] = some (.val (.int (if j > i then j else i))) := rfl
theorem min_ii (i j : Int) : gMin2 [.int i, .int j] = some (.val (.int (if j < i then j else i))) := rfl
theorem list_l (xs : List D) : gList [.lst xs] = some (.own (.lst xs)) := rfl
theorem list_t (xs : List D) : gList [.tup xs] = some (.own (.lst xs)) := rfl
theorem list_s {α : Type} (e : α → D) (xs : Bool × List α) : gList [eSq e xs] = some (.own (.lst (xs.2.map e))) := by unfold eSq; split <;> rfl
theorem tuple_l (xs : List D) : gTuple [.lst xs] = some (.val (.tup xs)) := rfl
theorem tuple_t (xs : List D) : gTuple [.tup xs] = some (.val (.tup xs)) := rfl
theorem tuple_s {α : Type} (e : α → D) (xs : Bool × List α) : gTuple [eSq e xs] = some (.val (.tup (xs.2.map e))) := by unfold eSq; split <;> rfl
theorem sorted_i (ns : List Int) : gSorted [.lst (ns.map .int)] = some (.own (.lst ((sortI ns).map .int))) := by
 show (asInts (ns.map D.int)).bind _ = _; rw [asInts_map]; rfl
theorem maxL_i (ns : List Int) : gMaxL [.lst (ns.map .int)] = (lMax ns).bind fun m => some (.val (.int m)) := by
 show (asInts (ns.map D.int)).bind _ = _; rw [asInts_map]; show (lMax ns).map _ = _; cases lMax ns <;> rfl
theorem minL_i (ns : List Int) : gMinL [.lst (ns.map .int)] = (lMin ns).bind fun m => some (.val (.int m)) := by
 show (asInts (ns.map D.int)).bind _ = _; rw [asInts_map]; show (lMin ns).map _ = _; cases lMin ns <;> rfl
theorem sum_i (ns : List Int) : gSum [.lst (ns.map .int)] = some (.val (.int ns.sum)) := by
 show (asInts (ns.map D.int)).bind _ = _; rw [asInts_map]; rfl
theorem all_b (ns : List Bool) : gAll [.lst (ns.map .bl)] = some (.val (.bl (ns.all id))) := by
 show (asBools (ns.map D.bl)).bind _ = _; rw [asBools_map]; rfl
theorem any_b (ns : List Bool) : gAny [.lst (ns.map .bl)] = some (.val (.bl (ns.any id))) := by
 show (asBools (ns.map D.bl)).bind _ = _; rw [asBools_map]; rfl
theorem isi_eq (d : D) (t : String) : gIsi [d, .ty t] = ((tyNm d).bind fun a => isLook a t).bind fun b => some (.val (.bl b)) := by
 show ((tyNm d).bind fun a => isLook a t).map _ = _; cases ((tyNm d).bind fun a => isLook a t) <;> rfl
theorem ty_n : tyNm .non = some "NoneType" := rfl
theorem ty_b (b : Bool) : tyNm (.bl b) = some "bool" := rfl
theorem ty_i (b : Int) : tyNm (.int b) = some "int" := rfl
theorem ty_s (b : Str) : tyNm (.str b) = some "str" := rfl
theorem ty_l (b : List D) : tyNm (.lst b) = some "list" := rfl
theorem ty_t (b : List D) : tyNm (.tup b) = some "tuple" := rfl
theorem il_ii : isLook "int" "int" = some true := by decide +kernel
theorem il_ib : isLook "int" "bool" = some false := by decide +kernel
theorem il_it : isLook "int" "tuple" = some false := by decide +kernel
theorem il_il : isLook "int" "list" = some false := by decide +kernel
theorem il_bb : isLook "bool" "bool" = some true := by decide +kernel
theorem il_bi : isLook "bool" "int" = some true := by decide +kernel
theorem il_bl : isLook "bool" "list" = some false := by decide +kernel
theorem il_bt : isLook "bool" "tuple" = some false := by decide +kernel
theorem il_ll : isLook "list" "list" = some true := by decide +kernel
theorem il_lt : isLook "list" "tuple" = some false := by decide +kernel
theorem il_li : isLook "list" "int" = some false := by decide +kernel
theorem il_lb : isLook "list" "bool" = some false := by decide +kernel
theorem il_tt : isLook "tuple" "tuple" = some true := by decide +kernel
theorem il_tl : isLook "tuple" "list" = some false := by decide +kernel
theorem il_ti : isLook "tuple" "int" = some false := by decide +kernel
theorem il_tb : isLook "tuple" "bool" = some false := by decide +kernel
theorem il_ss : isLook "str" "str" = some true := by decide +kernel
theorem il_si : isLook "str" "int" = some false := by decide +kernel
theorem il_sb : isLook "str" "bool" = some false := by decide +kernel
theorem il_ni : isLook "NoneType" "int" = some false := by decide +kernel
theorem il_nb : isLook "NoneType" "bool" = some false := by decide +kernel
theorem il_nl : isLook "NoneType" "list" = some false := by decide +kernel
theorem il_nt : isLook "NoneType" "tuple" = some false := by decide +kernel
section
variable {α β δ : Type} {ea : α → D} {eb : β → D} {ed : δ → D} {tg tg1 : D → List S → Option (List S)} {it1 : M (List D)} {te : M Rv} {vs vs1 : List Nat} {ρ : List S}
theorem cps_lc2 {γ : Type} {it it1 : M (List D)} {tt tt1 : M Bool} {kx : Xn → List S → Option γ} {k : Rv → List S → Option γ} : cps (eLc2 it tg tt it1 tg1 tt1 te vs vs1) ρ kx k = cps it ρ kx fun ds ρ1 => if noOwn ρ1 vs = true then cps (lcO tg tt it1 tg1 tt1 te vs vs1 ds []) ρ1 kx fun acc ρ2 => k (.own (.lst acc)) ρ2 else none := by
 unfold eLc2; refine (cps_bind _ _ k).trans ?_
 congr 1; funext ds ρ1
 refine (cps_bind _ _ k).trans ?_
 exact cps_no (f := lcO tg tt it1 tg1 tt1 te vs vs1 ds [])
end
end Tl
namespace Dl
open PySem L2
open PySem.Spec PyProof.Rows
section
variable {X : Cx} {W : WX} {np : Nat} {a b e tg : Expr} {es : List Expr} {fa fb fe : M Rv} {la : M (List Rv)} {pos p p2 tpos : Pos} {k nq : Nat} {fn : Fn}
def sAug (i : Nat) (g : D → D → Option Rv) (fe : M Rv) : MS := thenS (eVar i) fun x => thenS fe fun y => thenS (peek (settle x)) fun d => thenS (peek y) fun e => thenS (ofO (g d e)) fun r => match r with
 | .val d => fun ρ => some (.nx (ρ.set i (.val d)))
 | _ => sNever
structure DDun (P : Program) (w : World) (K : PySem.W.Frag) (mg : Str → Option Value) (base : Heap) (n m : Str) (k np : Nat) (fn : Fn) : Prop where
 len : ∀ ss o, fn ss = some o → ss.length = np
 cl : Cls K (He.ga K n)
 ex : ∃ (f : Addr) (fd : FuncData) (ps : List Str), Meth K (He.ga K n) m f ∧ PySem.W.fnIn K f = true ∧ Binds K fd ps [] ∧ FnOk P w K mg base (L2N.CX P w) k f fd ps (spD K np fn)
theorem DDun.up {P : Program} {w : World} {K : PySem.W.Frag} {mg : Str → Option Value} {base : Heap} {n m : Str} {j k np : Nat} {fn : Fn} (F : DDun P w K mg base n m j np fn) (h : j ≤ k) : DDun P w K mg base n m k np fn :=
 let ⟨f, fd, ps, h1, h2, h3, h4⟩ := F.ex; ⟨F.len, F.cl, f, fd, ps, h1, h2, h3, h4.mono h⟩
theorem ddun_of {P : Program} {w : World} {K : PySem.W.Frag} {mg : Str → Option Value} {base : Heap} {x m : Str} {ps N : List Str} {f : Addr} {fd : FuncData} {qual y : Str} {params : Arguments} {body : List Stmt} {scope : Scope} {fb : MS} {k : Nat} (F : FunD K y qual params body scope [] [] f fd) (S : FnScope N ps scope) (c : Cls K (He.ga K x)) (hk : Meth K (He.ga K x) m f) (hb : Binds K fd ps [])
  (h : Body P w K mg base N qual scope f body ps.length k fb) : DDun P w K mg base x m (k + 1) ps.length (mkFn ps.length N.length fb) := by
 obtain ⟨oc, od, dV, kV, doc, pm, an, cdv, ct, osl, _, lk, _⟩ := F.ex
 exact ⟨mkFn_len, c, f, fd, ps, hk, by unfold PySem.W.fnIn; rw [lk], hb, fn_data F S h⟩
def eOwnIx (n : Str) (mu : List Bool) (fn : Fn) (fo fb : M Rv) : M Rv := do
 let r ← fo
 let q ← fb
 ckC n (settle r)
 callM mu fn [settle r, settle q]
theorem pe_callOS {C f : Addr} {fd : FuncData} {ps : List Str} {sp : Sp} {E : L2.St → XK} {CXx : CXT} {x : Str} {tf : TE} {t : TA} (hf : PE X (.Name x p) tf) (hm : Meth X.K C "__call__" f) (hfi : PySem.W.fnIn X.K f = true) (F : FnOk X.prog X.w X.K X.mg X.base CXx k f fd ps sp) (hr : Room k X.A) (hbi : Binds X.K fd ps []) (hx : ∀ σ, PassesAt CXx X σ (E σ)) (ha : PA X (e :: es) t)
  (ht : eval (.Call (.Name x p) (e :: es) [] pos) X.env = (do callWith pos (← eval (.Name x p) X.env) [] (backTo pos (starEach (e :: es) X.env)) (backToKw pos (keywordEach [] X.env))) := by rfl)
  (he : starEach (e :: es) X.env = (false, eval e X.env) :: starEach es X.env := by rfl) (hpl : (backTo pos (starEach es X.env)).any (·.1) = false := by rfl) :
  PE X (.Call (.Name x p) (e :: es) [] pos) (fun σ H Q => tf σ H fun y H1 => ∃ a, y = V.ref a ∧ t σ H1 fun vs H2 => (∃ dx fs, H2 a = some (.ins C dx fs)) ∧ sp (V.ref a :: vs) H2 Q (E σ)) := by
 refine ⟨fun pins s σ H Q I h => ?_⟩
 refine Call_ (thn (hf.run pins s σ H _ I h) fun u s1 ⟨y, H1, I1, ry, a, ey, q⟩ => ?_) ht
 subst ey
 obtain rfl : u = Value.ref a := ry
 refine StX.callO_with (thn (ha.run pos pins s1 σ H1 _ I1 q) fun us s2 ⟨vs, H2, I2, r, ⟨dx, fs, hi⟩, q2⟩ => ?_) he hpl
 obtain ⟨ox, od, J, hd⟩ := StX.insC_at I2 (.inr ⟨dx, fs, hi⟩)
 refine ⟨⟨C, ox, od, J, hd⟩, ?_⟩
 exact wpAny_call (PySem.W.kco_code I2.kIn J hd hm.at_ hm.fn hfi (by
  have rr : Vals (V.ref a :: vs) (Value.ref a :: us) := .cons rfl r
  have hl : (Value.ref a :: us).length = ps.length := by rw [← rr.length]; exact F.len _ _ _ _ q2
  refine codeAny_mono (F.run X.A X.stack s2 H2 ⟨.ref a :: us, []⟩ (.ref a :: us) (.ref a :: vs) Q (E σ) hr I2.env0 (by
   have := hbi s2 (.ref a :: us) I2.kIn (by simpa using hl)
   simpa using this) rr q2) fun r s' hq => ?_
  cases r with
  | error e => exact hx σ pins H2 s2 e s' I2 hq
  | ok fl =>
   cases fl with
   | ret u => exact I2.after hq
   | next => exact False.elim hq
   | brk => exact False.elim hq
   | cont => exact False.elim hq))
def eOwnCall (n : Str) (mu : List Bool) (fn : Fn) (fo : M Rv) (la : M (List Rv)) : M Rv := do
 let r ← fo
 ckC n (settle r)
 let rs ← la
 ckC n (settle r)
 callM mu fn (settle r :: rs)
theorem de_own_call {n x : Str} (mu : List Bool) (go : Go X W) (F : DDun X.prog X.w X.K X.mg X.base n "__call__" k nq fn) (hr : Room k X.A) (hf : DE X W (.Name x p) fa) (ha : DA X W (e :: es) la)
  (ht : eval (.Call (.Name x p) (e :: es) [] pos) X.env = (do callWith pos (← eval (.Name x p) X.env) [] (backTo pos (starEach (e :: es) X.env)) (backToKw pos (keywordEach [] X.env))) := by rfl)
  (he : starEach (e :: es) X.env = (false, eval e X.env) :: starEach es X.env := by rfl) (hpl : (backTo pos (starEach es X.env)).any (·.1) = false := by rfl) : DE X W (.Call (.Name x p) (e :: es) [] pos) (eOwnCall n mu fn fa la) := by
 obtain ⟨f, fd, ps, hm, hfi, hbi, FO⟩ := F.ex
 refine ⟨(pe_callOS (E := WE W) hf.pe hm hfi FO hr hbi (wish_of go.tk) ha.pa ht he hpl).weak fun σ H Q ⟨c, G, ρ, R, w⟩ => ?_⟩
 refine tg_step R (Same.refl G) w fun r ρ1 v G1 H1 R1 s1 _ k1 w1 => ?_
 obtain ⟨G1', s1', R1', k1'⟩ := settle_ok R1 k1
 obtain ⟨⟨a, _, _, ea, _⟩, w2⟩ := ckC_wp R1' k1'.one (wpM_bind w1)
 subst ea
 refine ⟨a, rfl, tg_step R1' (s1.trans s1') w2 fun rs ρ2 vs G2 H2 R2 s2 s12 k2 w3 => ?_⟩
 have k1'' := k1'.mono s12
 obtain ⟨⟨a1, dx, fs, e1, h1⟩, w4⟩ := ckC_wp R2 k1''.one (wpM_bind w3)
 cases e1
 exact ⟨⟨dx, fs, h1⟩, call_sp R2 s2 (RpRs.cons k1'' k2) F.len w4⟩
def eLRg (fo : M Rv) : M Rv := do
 let r ← fo
 let d ← peek r
 match d with
 | .int n => if rngOk 0 n = true then pure (.own (.lst (rangeD 0 n.toNat))) else M.fail
 | _ => M.fail
theorem rgV_rp {K : PySem.W.Frag} {G : Hp} {n : Int} : RpL K G (rangeD 0 n.toNat) (rgV 0 n) := by
 have e1 : rgV 0 n = ((List.range n.toNat).map fun (k : Nat) => (0 : Int) + (k : Int)).map V.int := by
  unfold rgV; rw [List.map_map, Int.sub_zero]; rfl
 have e2 : rangeD 0 n.toNat = ((List.range n.toNat).map fun (k : Nat) => (0 : Int) + (k : Int)).map D.int := by
  unfold rangeD; rw [List.map_map]; rfl
 rw [e1, e2]; exact RpL.ints
theorem de_lrg (go : Go X W) (hg : Gl X "list" := by exact rfl) (hm : X.mg "list" = none) (hg2 : Gl X "range" := by exact rfl) (hm2 : X.mg "range" = none) (ha : DE X W a fa)
  (na : starEach [a] X.env = (false, eval a X.env) :: starEach [] X.env := by rfl) (nb : starEach [.Call (.Name "range" p2) [a] [] tpos] X.env = (false, eval (.Call (.Name "range" p2) [a] [] tpos) X.env) :: starEach [] X.env := by rfl) :
  DE X W (.Call (.Name "list" p) [.Call (.Name "range" p2) [a] [] tpos] [] pos) (eLRg fa) :=
 ⟨(pe_listRg go.calm hg hm (prg_1 hg2 hm2 ha.pe na) nb).weak fun σ H Q ⟨c, G, ρ, R, w⟩ => by
  refine tg_step R (Same.refl G) w fun r ρ1 v G1 H1 R1 s1 _ k1 w1 => ?_
  obtain ⟨d, kd, w2⟩ := peek_wp R1 k1 (wpM_bind w1)
  cases d with
  | int n =>
   dsimp only at w2
   by_cases ho : rngOk 0 n = true
   · rw [if_pos ho] at w2
     obtain ⟨h1, h2, h3, h4⟩ := of_decide_eq_true ho
     refine ⟨n, kd.int, ⟨by omega, by omega, by omega, ?_, by omega⟩, fun q hq => ?_⟩
     · omega
     · obtain ⟨R', kk⟩ := R1.new_own hq (rgV_rp (K := X.K) (G := G1) (n := n))
       exact w2 _ G1 _ R' s1 kk
   · rw [if_neg ho] at w2; exact w2.elim
  | _ => exact w2.elim⟩
end
def spIt (K : PySem.W.Frag) (n fld : Str) : Nat → Sp := fun m vs H Q _ => ∃ a dx fs b xs, vs = [.ref a] ∧ H a = some (.ins (He.ga K n) dx fs) ∧ fs.lookup fld = some (.ref b) ∧ SqL K H b xs ∧ ∀ p, H p = none → m ≤ p → Q (.ref p) (upd H p (ItO b p 0))
structure DIter (P : Program) (w : World) (K : PySem.W.Frag) (mg : Str → Option Value) (base : Heap) (n fld : Str) (k : Nat) : Prop where
 cl : Cls K (He.ga K n)
 ex : ∃ f : Addr, Meth K (He.ga K n) "__iter__" f ∧ ∀ (A : Around) (outer : List Env) (s : Shared) (H : Hp) (a : Addr) (Q : VK) (E : XK), Room k A → Env0 P w K mg base A outer s H → spIt K n fld s.heap.objs.size [.ref a] H Q E →
  codeAny (model P w) A (.call (.ref f) ⟨[.ref a], []⟩) (CR (L2N.CX P w) outer P w H s Q E) s
theorem DIter.up {P : Program} {w : World} {K : PySem.W.Frag} {mg : Str → Option Value} {base : Heap} {n fld : Str} {j k : Nat} (F : DIter P w K mg base n fld j) (h : j ≤ k) : DIter P w K mg base n fld k :=
 let ⟨f, h1, h2⟩ := F.ex; ⟨F.cl, f, h1, fun A outer s H a Q E hr => h2 A outer s H a Q E (hr.mono h)⟩
section
variable {X : Cx} {W : WX} {np : Nat} {a b e tg : Expr} {es : List Expr} {fa fb fe : M Rv} {la : M (List Rv)} {pos p p2 tpos : Pos} {k nq : Nat} {fn : Fn}
def lstOf : D → Option (List D)
 | .lst xs => some xs
 | _ => none
def itFld (n fld : Str) : D → Option (List D)
 | .obj n' ns ds => if n' = n then (lkF fld ns ds).bind lstOf else none
 | _ => none
def iOwn (n fld : Str) (fa : M Rv) : M (List D) := do
 let r ← fa
 let d ← toV r
 ofO (itFld n fld d)
end
end Dl
namespace Dl
open PySem L2
open PySem.Spec PyProof.Rows
section
variable {X : Cx} {pins : List (Addr × Obj)} {σ : L2.St} {H : Hp} {s : Shared} {p b q : Addr} {ys : List V} {A1 : Around}
end
section
variable {X : Cx} {W : WX} {np : Nat} {a : Expr} {fa : M Rv} {pos p : Pos} {k : Nat}
def eLOwn (n fld : Str) (fa : M Rv) : M Rv := do
 let r ← fa
 let d ← toV r
 let ds ← ofO (itFld n fld d)
 pure (.own (.lst ds))
end
end Dl
namespace Dl
open PySem L2
def fzS : S → S
 | .own d => .val d
 | s => s
def frzA (ρ : List S) : List S := ρ.map fzS
def okS : S → Bool
 | .own (.lst _) => true
 | .own _ => false
 | _ => true
def ownL (ρ : List S) : Bool := ρ.all okS
def scaRv : Rv → Bool
 | .val (.int _) => true
 | .val (.bl _) => true
 | .val (.str _) => true
 | .val .non => true
 | _ => false
open Classical in
noncomputable def lent {α : Type} (ok : α → Bool) (f : M α) : M α := fun ρ => if ownL ρ = true then match f (frzA ρ) with
 | some (.ok b ρ') => if ρ' = frzA ρ ∧ ok b = true then some (.ok b ρ) else none
 | _ => none
 else none
open Classical in
noncomputable def lentG (G H : Hp) (σ : L2.St) (ρ : List S) : Hp := fun b => if ∃ (i : Nat) (d : D), ρ[i]? = some (S.own d) ∧ σ[i]? = some (some (V.ref b)) then H b else G b
section
variable {K : PySem.W.Frag} {c : Cn} {G G2 H H2 : Hp} {σ : L2.St} {ρ : List S}
theorem fzS_val {s : S} {d : D} (h : fzS s = .val d) : s = .val d ∨ s = .own d := by
 cases s <;> cases h
 · exact .inl rfl
 · exact .inr rfl
theorem fzS_own {s : S} {d : D} (h : fzS s = .own d) : False := by cases s <;> cases h
theorem lentG_own (R : Rst K c G H σ ρ) {i : Nat} {d : D} {a : Addr} (h1 : ρ[i]? = some (.own d)) (h2 : σ[i]? = some (some (.ref a))) : lentG G H σ ρ a = H a := if_pos ⟨i, d, h1, h2⟩
theorem lentG_same (R : Rst K c G H σ ρ) : Same G (lentG G H σ ρ) := fun a o e => by
 unfold lentG
 split
 · rename_i h
   obtain ⟨i, d, h1, h2⟩ := h
   obtain ⟨b, e1, e2, _⟩ := R.own i d h1
   rw [h2] at e1; cases e1
   rw [e2] at e; cases e
 · exact e
theorem Rst.lend (R : Rst K c G H σ ρ) (hl : ownL ρ = true) : Rst K c (lentG G H σ ρ) H σ (frzA ρ) := by
 have nv : ∀ (i : Nat) (d : D), (frzA ρ)[i]? = some (.own d) → False := fun i d h => by
  unfold frzA at h
  rw [List.getElem?_map] at h
  obtain ⟨s, h1, h2⟩ := Option.map_eq_some_iff.mp h
  exact fzS_own h2
 refine ⟨R.fh, fun a o e => ?_, fun a o e => ?_, by unfold frzA; rw [List.length_map]; exact R.len, fun i d h => ?_, fun i d h => (nv i d h).elim, fun i j d e a h => (nv i d h).elim, fun i d h => (nv i d h).elim⟩
 · unfold lentG at e
   split at e
   · exact e
   · exact R.gh a o e
 · unfold lentG
   split
   · rename_i h
     obtain ⟨i, d, h1, h2⟩ := h
     obtain ⟨b, e1, e2, e3, _⟩ := R.own i d h1
     rw [h2] at e1; cases e1
     rw [e3] at e; cases e
   · exact R.fg a o e
 · unfold frzA at h
   rw [List.getElem?_map] at h
   obtain ⟨s, h1, h2⟩ := Option.map_eq_some_iff.mp h
   rcases fzS_val h2 with rfl | rfl
   · obtain ⟨v, e1, e2⟩ := R.val i d h1
     exact ⟨v, e1, e2.mono (lentG_same R)⟩
   · obtain ⟨a, e1, e2, e3, e4⟩ := R.own i d h1
     have ok : okS (.own d) = true := List.all_eq_true.mp hl _ (List.mem_of_getElem? h1)
     cases d with
     | lst ds =>
      obtain ⟨xs, h3, h4⟩ := e4
      exact ⟨.ref a, e1, a, xs, rfl, (lentG_own R h1 e1).trans h3, h4.mono (lentG_same R)⟩
     | _ => cases ok
theorem Rst.back (R : Rst K c G H σ ρ) (hl : ownL ρ = true) (R2 : Rst K c G2 H2 σ (frzA ρ)) (s : Same (lentG G H σ ρ) G2) : Rst K c G H2 σ ρ := by
 refine ⟨R2.fh, fun a o e => R2.gh _ _ (s _ _ (lentG_same R _ _ e)), R.fg, R.len, R.val, fun i d h => ?_, R.ne, R.par⟩
 obtain ⟨a, e1, e2, e3, e4⟩ := R.own i d h
 refine ⟨a, e1, e2, e3, ?_⟩
 have ok : okS (.own d) = true := List.all_eq_true.mp hl _ (List.mem_of_getElem? h)
 cases d with
 | lst ds =>
  obtain ⟨xs, h3, h4⟩ := e4
  exact ⟨xs, R2.gh _ _ (s _ _ ((lentG_own R h e1).trans h3)), h4⟩
 | _ => cases ok
theorem tg_lent {α β : Type} {W : WX} {rep : Cn → Hp → Hp → L2.St → List S → β → α → Prop} {ok : α → Bool} {f : M α} {Q : β → Hp → Prop} (hr : ∀ {c G G' H ρ ρ' b a}, ok a = true → rep c G H σ ρ b a → rep c G' H σ ρ' b a) (h : tg K W rep (lent ok f) σ H Q) : tg K W rep f σ H Q := by
 obtain ⟨c, G, ρ, R, w⟩ := h
 unfold lent at w
 by_cases hl : ownL ρ = true
 · rw [if_pos hl] at w
   refine ⟨c, lentG G H σ ρ, frzA ρ, R.lend hl, ?_⟩
   cases q : f (frzA ρ) with
   | none => rw [q] at w; exact w
   | some o =>
    rw [q] at w
    cases o with
    | ex e ρ' => exact w.elim
    | ok b ρ' =>
     dsimp only at w
     by_cases he : ρ' = frzA ρ ∧ ok b = true
     · rw [if_pos he] at w
       intro v G' H' R' s' r
       rw [he.1] at R'
       exact w v G H' (R.back hl R' s') (Same.refl G) (hr he.2 r)
     · rw [if_neg he] at w; exact w.elim
 · rw [if_neg hl] at w; exact w.elim
end
section
variable {X : Cx} {W : WX} {e : Expr} {f : M Bool} {g : M Rv}
theorem dt_lent (h : DT X W e f) : DT X W e (lent (fun _ => true) f) := ⟨h.pt.weak fun σ H Q q => tg_lent (fun _ r => r) q⟩
end
end Dl
namespace Dl
open PySem L2
open Classical in
noncomputable def forLO (i : Nat) (all : List D) (tg : D → List S → Option (List S)) (body : MS) : List D → MS
 | [], ρ => if ρ[i]? = some (.own (.lst all)) then some (.nx ρ) else none
 | d :: ds, ρ => if ρ[i]? = some (.own (.lst all)) then match tg d ρ with
  | none => none
  | some ρ1 => match body ρ1 with
   | some (.nx ρ') => forLO i all tg body ds ρ'
   | some (.ct ρ') => forLO i all tg body ds ρ'
   | some (.bk ρ') => some (.nx ρ')
   | o => o
  else none
section
variable {X : Cx} {W : WX} {np : Nat} {tg : Expr} {sts : List Stmt} {pos p : Pos} {x : Str} {g : D → List S → Option (List S)} {body : MS}
end
def Os.st : Os → List S
 | .nx ρ => ρ
 | .bk ρ => ρ
 | .ct ρ => ρ
 | .rt _ ρ => ρ
 | .ex _ ρ => ρ
section
variable {K : PySem.W.Frag} {c : Cn} {G H : Hp} {σ : L2.St} {ρ : List S}
variable {X : Cx} {W : WX} {np np' : Nat} {s : Stmt} {f : MS}
end
end Dl
namespace Dl
open PySem L2
section
variable {K : PySem.W.Frag} {c : Cn} {FA G H : Hp} {σ : L2.St} {ρ : List S} {A : Ar} {v : V} {ds : List D}
end
structure DAA (X : Cx) (es : List Expr) (w : MEA (List Rv)) : Prop where
 pa : PA X es (tgA X.K (repA X.K) w)
section
variable {X : Cx} {W : WX} {np k : Nat} {x : Str} {a b o e : Expr} {es : List Expr} {fa fe f : M Rv} {wa wo we wi : MEA Rv} {wr : MEA (List Rv)} {pos p : Pos} {fn : Fn}
end
end Dl
namespace Dl
open PySem L2
def popAtD (p : Nat × List D) (d : D) (ρ : List S) : Option (Ot Rv) := match d with
 | .int n => if 0 ≤ n ∧ n < 2 ^ 62 then match p.2[n.toNat]? with
   | some e => some (.ok (.val e) (ρ.set p.1 (.own (.lst (p.2.eraseIdx n.toNat)))))
   | none => none
  else none
 | _ => none
def mPopAt (fo fa : M Rv) : M Rv := do
 let r ← fo
 ckL (settle r)
 let x ← fa
 let d ← peek (settle x)
 fun ρ => match ownLst (settle r) ρ with
  | some p => popAtD p d ρ
  | none => none
def insD (p : Nat × List D) (d e : D) (ρ : List S) : Option (Ot Rv) := match d with
 | .int n => if 0 ≤ n ∧ n < 2 ^ 62 ∧ p.2.length < sizeLine then some (.ok (.val .non) (ρ.set p.1 (.own (.lst (p.2.take n.toNat ++ [e] ++ p.2.drop n.toNat))))) else none
 | _ => none
def insK (r x y : Rv) : M Rv := do
 let d ← peek (settle x)
 let e ← toV (settle y)
 fun ρ => match ownLst (settle r) ρ with
  | some p => insD p d e ρ
  | none => none
def insA (r : Rv) : List Rv → M Rv
 | [x, y] => insK r x y
 | _ => M.fail
def mInsert (fo : M Rv) (ga : M (List Rv)) : M Rv := do
 let r ← fo
 ckL (settle r)
 let xs ← ga
 insA r xs
def isLst : D → Bool
 | .lst _ => true
 | _ => false
def gIndex (d e : D) : Option Rv := match d with
 | .lst ds => if ds.all flD = true ∧ flD e = true then (ds.findIdx? fun z => feq z e).map fun j => .val (.int (j : Nat)) else none
 | _ => none
def ckLv (r : Rv) : M Unit := do
 let d ← peek r
 if isLst d = true then pure () else M.fail
def mIndex (fo fa : M Rv) : M Rv := do
 let r ← fo
 ckLv (settle r)
 let x ← fa
 let e ← peek (settle x)
 let d ← peek (settle r)
 ofO (gIndex d e)
theorem RpL.eraseIdx {K : PySem.W.Frag} {G : Hp} : ∀ {ds : List D} {xs : List V} (i : Nat), RpL K G ds xs → RpL K G (ds.eraseIdx i) (xs.eraseIdx i)
 | [], _, i, h => by cases h; simp [RpL]
 | d :: ds, _, 0, ⟨x, r, h1, h2, h3⟩ => by subst h1; exact h3
 | d :: ds, _, i + 1, ⟨x, r, h1, h2, h3⟩ => by subst h1; exact ⟨x, r.eraseIdx i, rfl, h2, h3.eraseIdx i⟩
section
variable {X : Cx} {W : WX} {np : Nat} {o e e2 a b : Expr} {fo fa fb : M Rv} {ga : M (List Rv)} {pos apos cpos p : Pos}
end
end Dl
namespace Tl
open PySem Dl
open L2 (ixN atI)
section
variable {γ : Type} {ρ : List S} {kx : Xn → List S → Option γ} {fa fb fe : M Rv} {la : M (List Rv)}
def augK (i : Nat) : Rv → MS
 | .val d => fun ρ => some (.nx (ρ.set i (.val d)))
 | _ => sNever
theorem augK_v (i : Nat) (d : D) : augK i (.val d) ρ = some (.nx (ρ.set i (.val d))) := rfl
theorem sAug_eq (i : Nat) (g : D → D → Option Rv) : sAug i g fe ρ = cps (eVar i) ρ (fun e ρ => some (.ex e ρ)) fun x ρ => cps fe ρ (fun e ρ => some (.ex e ρ)) fun y ρ => cps (peek (Dl.settle x)) ρ (fun e ρ => some (.ex e ρ)) fun d ρ => cps (peek y) ρ (fun e ρ => some (.ex e ρ)) fun e ρ => (g d e).bind fun r => augK i r ρ := by
 unfold sAug
 rw [thenS_eq]; congr 1; funext x ρ
 rw [thenS_eq]; congr 1; funext y ρ
 rw [thenS_eq]; congr 1; funext d ρ
 rw [thenS_eq]; congr 1; funext e ρ
 rw [thenS_eq, cps_ofO]
 congr 1
theorem gadd_ii (i j : Int) : (gII fun i j => .int (i + j)) (.int i) (.int j) = some (.val (.int (i + j))) := rfl
theorem gsub_ii (i j : Int) : (gII fun i j => .int (i - j)) (.int i) (.int j) = some (.val (.int (i - j))) := rfl
theorem gmul_ii (i j : Int) : (gIIc mulOk fun i j => .int (i * j)) (.int i) (.int j) = (gb (mulOk i j)).bind fun _ => some (.val (.int (i * j))) := mul_ii i j
theorem cps_ownIx (n : Str) (mu : List Bool) (fn : Fn) (k : Rv → List S → Option γ) : cps (eOwnIx n mu fn fa fb) ρ kx k = cps fa ρ kx fun r ρ1 => cps fb ρ1 kx fun q ρ2 => cps (ckC n (Dl.settle r)) ρ2 kx fun _ ρ3 => cps (callM mu fn [Dl.settle r, Dl.settle q]) ρ3 kx k := by
 unfold eOwnIx; simp only [cps_bind]
theorem cps_ownCall (n : Str) (mu : List Bool) (fn : Fn) (k : Rv → List S → Option γ) : cps (eOwnCall n mu fn fa la) ρ kx k = cps fa ρ kx fun r ρ1 => cps (ckC n (Dl.settle r)) ρ1 kx fun _ ρ2 => cps la ρ2 kx fun rs ρ3 => cps (ckC n (Dl.settle r)) ρ3 kx fun _ ρ4 => cps (callM mu fn (Dl.settle r :: rs)) ρ4 kx k := by
 unfold eOwnCall; simp only [cps_bind]
theorem cps_lrg (k : Rv → List S → Option γ) : cps (eLRg fa) ρ kx k = cps fa ρ kx fun r ρ1 => cps (peek r) ρ1 kx fun d ρ2 => (ofI d).bind fun n => (rngT n).bind fun xs => k (.own (.lst (xs.map D.int))) ρ2 := by
 unfold eLRg; simp only [cps_bind]
 congr 1; funext r ρ1; congr 1; funext d ρ2
 cases d with
 | int n =>
  dsimp only [ofI, Option.bind]
  unfold rngT
  by_cases h : rngOk 0 n = true
  · rw [if_pos h, if_pos h, cps_pure, rangeD_eq]
  · rw [if_neg h, if_neg h]; rfl
 | _ => rfl
theorem cps_iOwn (n fld : Str) (k : List D → List S → Option γ) : cps (iOwn n fld fa) ρ kx k = cps fa ρ kx fun r ρ1 => cps (toV r) ρ1 kx fun d ρ2 => (itFld n fld d).bind fun ds => k ds ρ2 := by
 unfold iOwn; simp only [cps_bind, cps_ofO]
theorem cps_lOwn (n fld : Str) (k : Rv → List S → Option γ) : cps (eLOwn n fld fa) ρ kx k = cps fa ρ kx fun r ρ1 => cps (toV r) ρ1 kx fun d ρ2 => (itFld n fld d).bind fun ds => k (.own (.lst ds)) ρ2 := by
 unfold eLOwn; simp only [cps_bind, cps_ofO, cps_pure]
open Classical in
noncomputable def lentK {α : Type} (ok : α → Bool) (ρ : List S) (b : α) (ρ' : List S) (k : α → List S → Option γ) : Option γ := if ρ' = frzA ρ ∧ ok b = true then k b ρ else none
theorem cps_lent {α : Type} (ok : α → Bool) (f : M α) (k : α → List S → Option γ) : cps (lent ok f) ρ kx k = (gb (ownL ρ)).bind fun _ => cps f (frzA ρ) (fun _ _ => none) fun b ρ' => lentK ok ρ b ρ' k := by
 unfold lent gb cps lentK
 dsimp only
 by_cases h : ownL ρ = true
 · rw [if_pos h, if_pos h, Option.bind_some]
   cases f (frzA ρ) with
   | none => rfl
   | some o =>
    cases o with
    | ex e ρ' => rfl
    | ok b ρ' =>
     dsimp only
     by_cases he : ρ' = frzA ρ ∧ ok b = true
     · rw [if_pos he, if_pos he]
     · rw [if_neg he, if_neg he]
 · rw [if_neg h, if_neg h]; rfl
open Classical in
theorem lentK_eq {α : Type} (ok : α → Bool) (ρ ρ' : List S) (b : α) (k : α → List S → Option γ) : lentK ok ρ b ρ' k = if ρ' = frzA ρ ∧ ok b = true then k b ρ else none := rfl
theorem lent_and : (True ∧ True) = True := and_self True
theorem scaRv_i (i : Int) : scaRv (.val (.int i)) = true := rfl
theorem scaRv_b (b : Bool) : scaRv (.val (.bl b)) = true := rfl
theorem frzA_n : frzA [] = [] := rfl
theorem frzA_c (s : S) (ρ : List S) : frzA (s :: ρ) = fzS s :: frzA ρ := rfl
theorem fzS_n : fzS .no = .no := rfl
theorem fzS_v (d : D) : fzS (.val d) = .val d := rfl
theorem fzS_o (d : D) : fzS (.own d) = .val d := rfl
theorem ownL_n : ownL [] = true := rfl
theorem ownL_no (ρ : List S) : ownL (.no :: ρ) = ownL ρ := rfl
theorem ownL_v (d : D) (ρ : List S) : ownL (.val d :: ρ) = ownL ρ := rfl
theorem ownL_o (xs : List D) (ρ : List S) : ownL (.own (.lst xs) :: ρ) = ownL ρ := rfl
end
end Tl
namespace Tl
open PySem Dl
open L2 (ixN atI)
mutual
inductive QT where
 | fin (n : Int) | ask (p : Int) (bs : QTs)
inductive QTs where
 | nil | cons (c : List Int) (t : QT) (r : QTs)
end
def QTs.l : QTs → List (List Int × QT)
 | .nil => []
 | .cons c t r => (c, t) :: r.l
def QTs.of : List (List Int × QT) → QTs
 | [] => .nil
 | p :: r => .cons p.1 p.2 (QTs.of r)
theorem QTs.l_of : ∀ bs, (QTs.of bs).l = bs
 | [] => rfl
 | p :: r => by unfold QTs.of QTs.l; rw [QTs.l_of r]
theorem QTs.of_l : ∀ bs : QTs, QTs.of bs.l = bs
 | .nil => rfl
 | .cons c t r => by unfold QTs.l QTs.of; rw [QTs.of_l r]
mutual
def e_tree : QT → D
 | .fin n => .tup [.str "end", .int n]
 | .ask p bs => .tup [.str "ask", .int p, .tup (e_trees bs)]
def e_trees : QTs → List D
 | .nil => []
 | .cons c t r => .tup [.tup (List.map D.int c), e_tree t] :: e_trees r
end
theorem e_trees_l : ∀ bs : QTs, e_trees bs = List.map (fun x => D.tup [D.tup (List.map D.int x.1), e_tree x.2]) bs.l
 | .nil => rfl
 | .cons c t r => by unfold e_trees QTs.l; rw [List.map_cons, e_trees_l r]
def QT.tag : QT → Str
 | .fin _ => "end"
 | .ask _ _ => "ask"
def QT.num : QT → Int
 | .fin n => n
 | .ask p _ => p
def QT.brs : QT → Option (List (List Int × QT))
 | .fin _ => none
 | .ask _ bs => some bs.l
section
theorem e_tree_fin (n : Int) : e_tree (.fin n) = .tup [.str "end", .int n] := by unfold e_tree; rfl
theorem e_tree_a (p : Int) (bs : QTs) : e_tree (.ask p bs) = .tup [.str "ask", .int p, .tup (e_trees bs)] := by rw [e_tree]
theorem e_tree_ask (p : Int) (bs : List (List Int × QT)) : e_tree (.ask p (QTs.of bs)) = .tup [.str "ask", .int p, .tup (List.map (fun x => D.tup [D.tup (List.map D.int x.1), e_tree x.2]) bs)] := by
 rw [e_tree_a, e_trees_l, QTs.l_of]
theorem ix_tree0 (t : QT) : dIx (e_tree t) (.int 0) = some (.val (.str t.tag)) := by
 cases t <;> unfold e_tree <;> rfl
theorem ix_tree1 (t : QT) : dIx (e_tree t) (.int 1) = some (.val (.int t.num)) := by
 cases t <;> unfold e_tree <;> rfl
theorem ix_tree2 (t : QT) : dIx (e_tree t) (.int 2) = t.brs.bind fun bs => some (.val (.tup (List.map (fun x => D.tup [D.tup (List.map D.int x.1), e_tree x.2]) bs))) := by
 cases t with
 | fin n => unfold e_tree; rfl
 | ask p bs => rw [e_tree_a, e_trees_l]; rfl
theorem len_tree (t : QT) : scaD (e_tree t) = false := by cases t <;> unfold e_tree <;> rfl
end
mutual
def QT.dec : (a b : QT) → Decidable (a = b)
 | .fin n, .fin m => if h : n = m then .isTrue (by rw [h]) else .isFalse (by intro z; cases z; exact h rfl)
 | .fin _, .ask _ _ => .isFalse (by intro z; cases z)
 | .ask _ _, .fin _ => .isFalse (by intro z; cases z)
 | .ask p bs, .ask q cs => if h : p = q then (match QTs.dec bs cs with
  | .isTrue h2 => .isTrue (by rw [h, h2])
  | .isFalse h2 => .isFalse (by intro z; cases z; exact h2 rfl)) else .isFalse (by intro z; cases z; exact h rfl)
def QTs.dec : (a b : QTs) → Decidable (a = b)
 | .nil, .nil => .isTrue rfl
 | .nil, .cons _ _ _ => .isFalse (by intro z; cases z)
 | .cons _ _ _, .nil => .isFalse (by intro z; cases z)
 | .cons c t r, .cons c' t' r' => if h : c = c' then (match QT.dec t t', QTs.dec r r' with
  | .isTrue h2, .isTrue h3 => .isTrue (by rw [h, h2, h3])
  | .isFalse h2, _ => .isFalse (by intro z; cases z; exact h2 rfl)
  | _, .isFalse h3 => .isFalse (by intro z; cases z; exact h3 rfl)) else .isFalse (by intro z; cases z; exact h rfl)
end
instance : DecidableEq QT := QT.dec
end Tl
namespace Tl
open PySem Dl
open L2 (ixN atI)
section
variable {α β : Type} [DecidableEq α] {e : α → D} {p : α → PyData} {n : Nat}
theorem eqS {a b : Str} (ha : PyData.strOk a = true) (hb : PyData.strOk b = true) : dEqB (.str a) (.str b) = some (decide (a = b)) := by
 have e : PyData.eqv (.str a) (.str b) = decide (a = b) := by simp only [PyData.eqv]; rw [Bool.eq_iff_iff, beq_iff_eq, decide_eq_true_eq]
 unfold dEqB; simp [toP, SeqAt.shaped, PyData.canLay0, PyData.depth, ha, hb, e]
theorem eq_ok' {a b : Str} (ha : PyData.strOk a = true) (hb : PyData.strOk b = true) : dEq (.str a) (.str b) = some (.val (.bl (decide (a = b)))) := by unfold dEq; rw [eqS ha hb]; rfl
theorem ne_ok' {a b : Str} (ha : PyData.strOk a = true) (hb : PyData.strOk b = true) : dNe (.str a) (.str b) = some (.val (.bl (!decide (a = b)))) := by unfold dNe; rw [eqS ha hb]; rfl
theorem ok_end : PyData.strOk "end" = true := by decide +kernel
theorem ok_ask : PyData.strOk "ask" = true := by decide +kernel
theorem ok_tag (t : QT) : PyData.strOk t.tag = true := by cases t <;> first | exact ok_end | exact ok_ask
theorem eq_tag_end (t : QT) : dEq (.str (QT.tag t)) (.str "end") = some (.val (.bl (decide (QT.tag t = "end")))) := eq_ok' (ok_tag t) ok_end
theorem eq_tag_ask (t : QT) : dEq (.str (QT.tag t)) (.str "ask") = some (.val (.bl (decide (QT.tag t = "ask")))) := eq_ok' (ok_tag t) ok_ask
theorem ne_tag_end (t : QT) : dNe (.str (QT.tag t)) (.str "end") = some (.val (.bl (!decide (QT.tag t = "end")))) := ne_ok' (ok_tag t) ok_end
theorem ne_tag_ask (t : QT) : dNe (.str (QT.tag t)) (.str "ask") = some (.val (.bl (!decide (QT.tag t = "ask")))) := ne_ok' (ok_tag t) ok_ask
def optP (p : α → PyData) : Option α → PyData
 | none => .none
 | some a => p a
def NotN (p : α → PyData) : Prop := ∀ a, PyData.eqv .none (p a) = false ∧ PyData.eqv (p a) .none = false
theorem PD.opt (h : PD e p n) (hn : NotN p) : PD (eO e) (optP p) n := ⟨fun a => by cases a <;> first | exact h.to _ | (unfold eO toP; rfl), fun a => by cases a <;> first | exact h.lay _ | (unfold optP; simp [PyData.canLay0]), fun a => by cases a <;> first | exact h.dep _ | (unfold optP; simp [PyData.depth]), fun a b => by
 cases a with
 | none => cases b with
  | none => unfold optP; simp [PyData.eqv]
  | some b => unfold optP; rw [(hn b).1]; simp
 | some a => cases b with
  | none => unfold optP; rw [(hn a).2]; simp
  | some b => unfold optP; rw [h.eqv]; simp⟩
theorem nn_lst {q : β → PyData} : NotN (fun xs : List β => PyData.list (xs.map q)) := fun a => ⟨by simp [PyData.eqv], by simp [PyData.eqv]⟩
theorem PD.eqO (h : PD e p n) (hn : NotN p) (hs : n ≤ 64) (a : Option α) (b : α) : dEq (eO e a) (e b) = some (.val (.bl (decide (a = some b)))) := (h.opt hn).eq hs a (some b)
theorem so_t (x : Option α) : (x.isSome && true) = x.isSome := Bool.and_true _
theorem so_f (x : Option α) : (x.isSome && false) = false := Bool.and_false _
end
theorem fldO_o (cs : List Str) (f n : Str) (ns : List Str) (ds : List D) : fldO cs f (.obj n ns ds) = if n ∈ cs then lkF f ns ds else none := rfl
section
variable {α β E γ : Type} {e : α → D} {e' : β → D} {st : E → List S} {tg : D → List S → Option (List S)} {tt : M Bool} {te : M Rv} {vs : List Nat} {kx : Xn → List S → Option γ}
end
theorem ite_same {α : Type} (c : Prop) [Decidable c] (a : α) : (if c then a else a) = a := ite_self a
def isNon : D → Bool
 | .non => true
 | _ => false
def unR : Rv → Bool
 | .val d => !isNon d
 | _ => false
def eUn (fa : M Rv) : M Rv := do
 let r ← fa
 if unR r = true then pure r else M.fail
theorem de_un {X : L2.Cx} {W : L2.WX} {e : Expr} {fa : M Rv} (h : DE X W e fa) : DE X W e (eUn fa) :=
 ⟨h.pe.weak fun σ H Q ⟨c, G, ρ, R, w⟩ => tg_step R (L2.Same.refl G) w fun r ρ1 v G1 H1 R1 s1 _ k w1 => by
  by_cases hr : unR r = true
  · rw [if_pos hr] at w1; exact w1 v G1 H1 R1 s1 k
  · rw [if_neg hr] at w1; exact w1.elim⟩
section
variable {γ : Type} {ρ : List S} {kx : Xn → List S → Option γ} {fa : M Rv} {la : M (List Rv)} {lt : M (List Rv × List D)}
def unO : Rv → Option D
 | .val d => if isNon d = true then none else some d
 | _ => none
theorem cps_un (k : Rv → List S → Option γ) : cps (eUn fa) ρ kx k = cps fa ρ kx fun r ρ1 => (unO r).bind fun d => k (.val d) ρ1 := by
 unfold eUn; simp only [cps_bind, cps_ite, cps_pure, cps_fail]
 congr 1; funext r ρ1
 cases r with
 | val d =>
  by_cases h : isNon d = true
  · simp [unR, unO, h]
  · simp [unR, unO, h]
 | _ => rfl
theorem un_o {α : Type} {e : α → D} (h : ∀ a, isNon (e a) = false) (x : Option α) : unO (.val (eO e x)) = x.bind fun a => some (e a) := by
 cases x with
 | none => rfl
 | some a =>
  show (if isNon (e a) = true then none else some (e a)) = some (e a)
  rw [h a]; rfl
theorem l1_o (ds : List D) : lstOf1 (.own (.lst ds)) = some ds := rfl
theorem cps_aTmpR (k : (List Rv × List D) → List S → Option γ) (rs : List Rv) (ds : List D) : cps (aTmpR rs ds) ρ kx k = k (.ali ρ.length :: rs, ds) ρ := rfl
theorem cps_aTmp (k : (List Rv × List D) → List S → Option γ) : cps (aTmp fa la) ρ kx k = cps fa ρ kx fun r ρ1 => (lstOf1 r).bind fun ds => cps la ρ1 kx fun rs ρ2 => k (.ali ρ2.length :: rs, ds) ρ2 := by
 unfold aTmp; simp only [cps_bind, cps_ofO, cps_aTmpR]
theorem cps_aConsT (k : (List Rv × List D) → List S → Option γ) : cps (aConsT fa lt) ρ kx k = cps fa ρ kx fun r ρ1 => cps lt ρ1 kx fun p ρ2 => k (Dl.settle r :: p.1, p.2) ρ2 := by
 unfold aConsT; simp only [cps_bind, cps_pure]
def tkK (r : Rv) (k : Rv → Option γ) : Option γ := match r with
 | .ali _ => none
 | r => k r
theorem tkK_v (d : D) (k : Rv → Option γ) : tkK (.val d) k = k (.val d) := rfl
theorem tkK_o (d : D) (k : Rv → Option γ) : tkK (.own d) k = k (.own d) := rfl
theorem tk_z (l : List S) : l.take 0 = [] := rfl
theorem tk_s (s : S) (l : List S) (n : Nat) : (s :: l).take (n + 1) = s :: l.take n := rfl
theorem cps_callT (mu : List Bool) (fn : Fn) (p : List Rv × List D) (k : Rv → List S → Option γ) : cps (callT mu fn p) ρ kx k = cps (callM mu fn p.1) (ρ ++ [.own (.lst p.2)]) (fun e ρ' => kx e (ρ'.take ρ.length)) fun r ρ' => tkK r fun r => k r (ρ'.take ρ.length) := by
 unfold callT cps
 dsimp only
 cases callM mu fn p.1 (ρ ++ [.own (.lst p.2)]) with
 | none => rfl
 | some o =>
  cases o with
  | ex e ρ' => rfl
  | ok r ρ' => cases r <;> rfl
theorem cps_eCallT (mu : List Bool) (fn : Fn) (k : Rv → List S → Option γ) : cps (eCallT mu fn lt) ρ kx k = cps lt ρ kx fun p ρ1 => cps (callT mu fn p) ρ1 kx k := by
 unfold eCallT; simp only [cps_bind]
end
section
variable {γ : Type} {ρ : List S} {kx : Xn → List S → Option γ} {la lk : M (List Rv)}
theorem cps_eCallK (n m : Nat) (mu : List Bool) (fn : Fn) (k : Rv → List S → Option γ) : cps (eCallK n m mu fn la lk) ρ kx k = cps la ρ kx fun rs ρ1 => cps lk ρ1 kx fun zs ρ2 => if rs.length = n ∧ zs.length = m then cps (callM mu fn (rs ++ zs)) ρ2 kx k else none := by
 unfold eCallK; simp only [cps_bind, cps_ite, cps_fail]
end
section
variable {γ : Type} {ρ : List S} {kx : Xn → List S → Option γ} {fa fb : M Rv}
theorem cps_dix (k : Rv → List S → Option γ) : cps (eDIx fa fb) ρ kx k = cps fa ρ kx fun x ρ1 => cps fb ρ1 kx fun y ρ2 => cps (peek (Dl.settle x)) ρ2 kx fun d ρ3 => cps (peek y) ρ3 kx fun e ρ4 => (dGetI d e).bind fun z => k (.val z) ρ4 := by
 unfold eDIx; simp only [cps_bind, cps_ofO, cps_pure]
end
end Tl
namespace Tl
open PySem Dl
open L2 (ixN atI)
abbrev W3 : Type := List (List (List Int))
def locs (n : Nat) (f : Nat → Addr) : List D := (List.range n).map fun j => D.loc (f j)
structure Row2 (A : Ar) (f : Nat → Addr) (rs : List (List Int)) : Prop where
 row : ∀ j r, rs[j]? = some r → (f j, r.map D.int) ∈ A
 inj : ∀ j j', j < rs.length → j' < rs.length → f j = f j' → j = j'
structure Nest (A : Ar) (k : Nat → Addr) (f : Nat → Nat → Addr) (W : W3) : Prop where
 node : ∀ i rs, W[i]? = some rs → (k i, locs rs.length (f i)) ∈ A
 row : ∀ i rs, W[i]? = some rs → ∀ j r, rs[j]? = some r → (f i j, r.map D.int) ∈ A
 inj : ∀ i rs j i' rs' j', W[i]? = some rs → j < rs.length → W[i']? = some rs' → j' < rs'.length → f i j = f i' j' → i = i' ∧ j = j'
 sep : ∀ i rs j i', W[i]? = some rs → j < rs.length → i' < W.length → f i j ≠ k i'
theorem Nest.nil (A : Ar) (k : Nat → Addr) (f : Nat → Nat → Addr) : Nest A k f [] := ⟨fun i rs h => by simp at h, fun i rs h => by simp at h, fun i rs j i' rs' j' h => by simp at h, fun i rs j i' h => by simp at h⟩
theorem mem_key {A : Ar} {a : Addr} {ds : List D} (h : (a, ds) ∈ A) : a ∈ keys A := List.mem_map.mpr ⟨_, h, rfl⟩
theorem Nest.more {A : Ar} {k : Nat → Addr} {f : Nat → Nat → Addr} {W : W3} (h : Nest A k f W) (B : Ar) : Nest (B ++ A) k f W := ⟨fun i rs e => List.mem_append_right _ (h.node i rs e), fun i rs e j r e' => List.mem_append_right _ (h.row i rs e j r e'), h.inj, h.sep⟩
theorem Row2.more {A : Ar} {f : Nat → Addr} {rs : List (List Int)} (h : Row2 A f rs) (B : Ar) : Row2 (B ++ A) f rs := ⟨fun j r e => List.mem_append_right _ (h.row j r e), h.inj⟩
theorem Row2.snoc {A : Ar} {f : Nat → Addr} {rs : List (List Int)} {b : Addr} {r : List Int} (h : Row2 A f rs) (hb : b ∉ keys A) : Row2 ((b, r.map D.int) :: A) (fun j => if j = rs.length then b else f j) (rs ++ [r]) := by
 have key : ∀ j, j < rs.length → f j ∈ keys A := fun j hj => mem_key (h.row j rs[j] (List.getElem?_eq_getElem hj))
 refine ⟨fun j r' e => ?_, fun j j' hj hj' e => ?_⟩
 · rcases ap_get e with e | ⟨e1, e2⟩
   · have hj := (List.getElem?_eq_some_iff.mp e).1
     rw [if_neg (by omega)]
     exact List.mem_cons_of_mem _ (h.row j r' e)
   · rw [if_pos e1, e2]; exact List.mem_cons_self
 · rw [List.length_append] at hj hj'
   have hj : j < rs.length + 1 := hj
   have hj' : j' < rs.length + 1 := hj'
   by_cases h1 : j = rs.length
   · by_cases h2 : j' = rs.length
     · omega
     · rw [if_pos h1, if_neg h2] at e
       exact absurd (key j' (by omega)) (e ▸ hb)
   · by_cases h2 : j' = rs.length
     · rw [if_neg h1, if_pos h2] at e
       exact absurd (key j (by omega)) (e ▸ hb)
     · rw [if_neg h1, if_neg h2] at e
       exact h.inj j j' (by omega) (by omega) e
theorem Nest.snoc {A : Ar} {k : Nat → Addr} {f : Nat → Nat → Addr} {W : W3} {g : Nat → Addr} {rs : List (List Int)} {b : Addr} (h : Nest A k f W) (hr : Row2 A g rs) (hb : b ∉ keys A)
  (s1 : ∀ i rs' j' j, W[i]? = some rs' → j' < rs'.length → j < rs.length → f i j' ≠ g j) (s2 : ∀ i j, i < W.length → j < rs.length → g j ≠ k i) :
  Nest ((b, locs rs.length g) :: A) (fun i => if i = W.length then b else k i) (fun i => if i = W.length then g else f i) (W ++ [rs]) := by
 have kg : ∀ j, j < rs.length → g j ∈ keys A := fun j hj => mem_key (hr.row j rs[j] (List.getElem?_eq_getElem hj))
 have kf : ∀ i rs' j, W[i]? = some rs' → j < rs'.length → f i j ∈ keys A := fun i rs' j e hj => mem_key (h.row i rs' e j rs'[j] (List.getElem?_eq_getElem hj))
 have get : ∀ {i : Nat} {rs' : List (List Int)}, (W ++ [rs])[i]? = some rs' → (i ≠ W.length ∧ W[i]? = some rs') ∨ (i = W.length ∧ rs' = rs) := fun {i rs'} e => by
  rcases ap_get e with e | e
  · exact .inl ⟨by have := (List.getElem?_eq_some_iff.mp e).1; omega, e⟩
  · exact .inr e
 refine ⟨fun i rs' e => ?_, fun i rs' e j r e' => ?_, fun i rs1 j i' rs2 j' e1 l1 e2 l2 q => ?_, fun i rs1 j i' e l l' => ?_⟩
 · rcases get e with ⟨hi, e⟩ | ⟨hi, e⟩
   · rw [if_neg hi, if_neg hi]; exact List.mem_cons_of_mem _ (h.node i rs' e)
   · subst e; rw [if_pos hi, if_pos hi]; exact List.mem_cons_self
 · rcases get e with ⟨hi, e⟩ | ⟨hi, e⟩
   · rw [if_neg hi]; exact List.mem_cons_of_mem _ (h.row i rs' e j r e')
   · subst e; rw [if_pos hi]; exact List.mem_cons_of_mem _ (hr.row j r e')
 · rcases get e1 with ⟨hi, d1⟩ | ⟨hi, d1⟩ <;> rcases get e2 with ⟨hi', d2⟩ | ⟨hi', d2⟩
   · rw [if_neg hi, if_neg hi'] at q; exact h.inj i rs1 j i' rs2 j' d1 l1 d2 l2 q
   · rw [d2] at l2; rw [if_neg hi, if_pos hi'] at q; exact absurd q (s1 i rs1 j j' d1 l1 l2)
   · rw [d1] at l1; rw [if_pos hi, if_neg hi'] at q; exact absurd q.symm (s1 i' rs2 j' j d2 l2 l1)
   · rw [d1] at l1; rw [d2] at l2; rw [if_pos hi, if_pos hi'] at q
     exact ⟨by omega, hr.inj j j' l1 l2 q⟩
 · rw [List.length_append] at l'
   have l' : i' < W.length + 1 := l'
   rcases get e with ⟨hi, e⟩ | ⟨hi, e⟩
   · by_cases h' : i' = W.length
     · rw [if_neg hi, if_pos h']; exact fun z => hb (z ▸ kf i rs1 j e l)
     · rw [if_neg hi, if_neg h']; exact h.sep i rs1 j i' e l (by omega)
   · subst e
     by_cases h' : i' = W.length
     · rw [if_pos hi, if_pos h']; exact fun z => hb (z ▸ kg j l)
     · rw [if_pos hi, if_neg h']; exact s2 i' j (by omega) l
theorem put_ne {A : Ar} {a b : Addr} {ds es : List D} (h : (b, es) ∈ A) (hn : b ≠ a) : (b, es) ∈ Ar.put A a ds := List.mem_map.mpr ⟨_, h, if_neg hn⟩
theorem put_eq {A : Ar} {a : Addr} {ds es : List D} (h : (a, es) ∈ A) : (a, ds) ∈ Ar.put A a ds := List.mem_map.mpr ⟨_, h, if_pos rfl⟩
theorem Nest.put {A : Ar} {k : Nat → Addr} {f : Nat → Nat → Addr} {W : W3} {p s : Nat} {rs : List (List Int)} {r r' : List Int} (h : Nest A k f W) (hp : W[p]? = some rs) (hs : rs[s]? = some r) : Nest (Ar.put A (f p s) (r'.map D.int)) k f (W.set p (rs.set s r')) := by
 have lp := (List.getElem?_eq_some_iff.mp hp).1
 have ls := (List.getElem?_eq_some_iff.mp hs).1
 have get : ∀ {i : Nat} {rs' : List (List Int)}, (W.set p (rs.set s r'))[i]? = some rs' → (i ≠ p ∧ W[i]? = some rs') ∨ (i = p ∧ rs' = rs.set s r') := fun {i rs'} e => by
  rw [List.getElem?_set] at e
  by_cases hi : p = i
  · rw [if_pos hi, if_pos lp] at e; exact .inr ⟨hi.symm, (Option.some.inj e).symm⟩
  · rw [if_neg hi] at e; exact .inl ⟨fun z => hi z.symm, e⟩
 have old : ∀ {i : Nat} {rs' : List (List Int)}, (W.set p (rs.set s r'))[i]? = some rs' → ∃ rs0, W[i]? = some rs0 ∧ rs0.length = rs'.length := fun {i rs'} e => by
  rcases get e with ⟨_, d⟩ | ⟨hi, d⟩
  · exact ⟨rs', d, rfl⟩
  · rw [hi, d]; exact ⟨rs, hp, by rw [List.length_set]⟩
 refine ⟨fun i rs' e => ?_, fun i rs' e j r1 e' => ?_, fun i rs1 j i' rs2 j' e1 l1 e2 l2 q => ?_, fun i rs1 j i' e l l' => ?_⟩
 · obtain ⟨rs0, e0, l0⟩ := old e
   rw [← l0]
   have li := (List.getElem?_eq_some_iff.mp e0).1
   exact put_ne (h.node i rs0 e0) fun z => h.sep p rs s i hp ls li z.symm
 · rcases get e with ⟨hi, d⟩ | ⟨hi, d⟩
   · have lj := (List.getElem?_eq_some_iff.mp e').1
     exact put_ne (h.row i rs' d j r1 e') fun z => hi (h.inj i rs' j p rs s d lj hp ls z).1
   · rw [d] at e'; clear d e; subst hi
     rw [List.getElem?_set] at e'
     by_cases hj : s = j
     · subst hj
       rw [if_pos rfl, if_pos ls] at e'
       cases e'
       exact put_eq (h.row i rs hp s r hs)
     · rw [if_neg hj] at e'
       have lj := (List.getElem?_eq_some_iff.mp e').1
       exact put_ne (h.row i rs hp j r1 e') fun z => hj (h.inj i rs j i rs s hp lj hp ls z).2.symm
 · obtain ⟨q1, a1, b1⟩ := old e1
   obtain ⟨q2, a2, b2⟩ := old e2
   exact h.inj i q1 j i' q2 j' a1 (by omega) a2 (by omega) q
 · obtain ⟨q1, a1, b1⟩ := old e
   rw [List.length_set] at l'
   exact h.sep i q1 j i' a1 (by omega) l'
end Tl
namespace Tl
open PySem Dl
theorem cps_self {α : Type} (f : M α) (ρ : List S) : f ρ = cps f ρ (fun e ρ => some (.ex e ρ)) (fun a ρ => some (.ok a ρ)) := by
 unfold cps
 cases f ρ with
 | none => rfl
 | some o => cases o <;> rfl
end Tl
namespace My
open PySem Dl Tl
open L2 (ixN atI)
theorem sz20 : 2 ^ 20 < sizeLine := by rw [PySem.sizeLine_eq]; decide
theorem gz_ok {n : Nat} (h : n ≤ 2 ^ 20) : gz n = some () := if_pos (by have := sz20; omega)
theorem gb_ok {b : Bool} (h : b = true) : gb b = some () := if_pos h
theorem foldT_foldl {α E : Type} {body : α → E → Option E} {f : E → α → E} (μ : E → Nat) (N : Nat) (h : ∀ x e, μ e < N → body x e = some (f e x)) (hm : ∀ x e, μ (f e x) ≤ μ e + 1) : ∀ (xs : List α) (e : E), μ e + xs.length ≤ N → foldT body xs e = some (xs.foldl f e)
 | [], e, _ => rfl
 | x :: xs, e, hz => by
  rw [List.length_cons] at hz
  have := hm x e
  unfold foldT
  rw [h x e (by omega)]
  exact foldT_foldl μ N h hm xs (f e x) (by omega)
theorem forT_all {α E R : Type} {body : α → E → Option (Cf E R)} {e : E} : ∀ (xs : List α), (∀ x ∈ xs, body x e = some (.nx e)) → forT body xs e = some (.nx e)
 | [], _ => rfl
 | x :: xs, h => by
  unfold forT
  rw [h x List.mem_cons_self]
  exact forT_all xs fun y hy => h y (List.mem_cons_of_mem _ hy)
theorem mapT_map {α β : Type} {f : α → Option β} {g : α → β} : ∀ (xs : List α), (∀ x ∈ xs, f x = some (g x)) → mapT f xs = some (xs.map g)
 | [], _ => rfl
 | x :: xs, h => by
  unfold mapT
  rw [h x List.mem_cons_self, mapT_map xs fun y hy => h y (List.mem_cons_of_mem _ hy)]; rfl
theorem mapF_filter {α : Type} {f : α → Option (Option α)} {p : α → Bool} : ∀ (xs : List α), (∀ x ∈ xs, f x = some (if p x = true then some x else none)) → mapF f xs = some (xs.filter p)
 | [], _ => rfl
 | x :: xs, h => by
  unfold mapF
  rw [h x List.mem_cons_self, mapF_filter xs fun y hy => h y (List.mem_cons_of_mem _ hy)]
  cases hp : p x with
  | true => rw [List.filter_cons_of_pos hp]; rfl
  | false => rw [List.filter_cons_of_neg (by rw [hp]; exact Bool.false_ne_true)]; rfl
theorem rngT_ok {n : Nat} (h : n ≤ 2 ^ 20) : rngT (n : Int) = some (rngI 0 n) := by
 unfold rngT
 have e : rngOk 0 (n : Int) = true := decide_eq_true ⟨by omega, by omega, by omega, by omega⟩
 rw [if_pos e, Int.toNat_natCast]
theorem rngT_ok' {j : Int} (h0 : 0 ≤ j) (h : j ≤ 2 ^ 20) : rngT j = some (rngI 0 j.toNat) := by
 obtain ⟨n, rfl⟩ := Int.eq_ofNat_of_zero_le h0
 exact rngT_ok (by omega)
theorem rngI_len (n : Nat) : (rngI 0 n).length = n := by simp [rngI]
theorem rngI_get {n i : Nat} {x : Int} (h : (rngI 0 n)[i]? = some x) : x = i ∧ i < n := by
 unfold rngI at h
 rw [List.getElem?_map] at h
 obtain ⟨y, h1, h2⟩ := Option.map_eq_some_iff.mp h
 obtain ⟨h4, h5⟩ := List.getElem?_eq_some_iff.mp h1
 rw [List.length_range] at h4
 rw [List.getElem_range] at h5
 subst h5
 exact ⟨by omega, h4⟩
theorem mem_rngI {n : Nat} {x : Int} : x ∈ rngI 0 n ↔ 0 ≤ x ∧ x < n := by
 unfold rngI
 rw [List.mem_map]
 constructor
 · rintro ⟨k, hk, rfl⟩
   have := List.mem_range.mp hk
   omega
 · rintro ⟨h1, h2⟩
   exact ⟨x.toNat, List.mem_range.mpr (by omega), by omega⟩
theorem atI_i {α : Type} {xs : List α} {i : Int} (h0 : 0 ≤ i) (h1 : i < xs.length) : ∃ x, atI xs i = some x ∧ xs[i.toNat]? = some x := by
 obtain ⟨n, rfl⟩ := Int.eq_ofNat_of_zero_le h0
 have hn : n < xs.length := by omega
 exact ⟨xs[n], by rw [atI_nat, List.getElem?_eq_getElem hn], by rw [Int.toNat_natCast, List.getElem?_eq_getElem hn]⟩
theorem atI_last {α : Type} {l : List α} {d : α} : atI (l ++ [d]) (-1) = some d := by
 unfold atI ixN
 rw [if_neg (by decide), List.length_append, List.length_singleton, if_pos (by omega)]
 have : (-1 + ((l.length + 1 : Nat) : Int)).toNat = l.length := by omega
 rw [Option.bind_some, this, List.getElem?_append_right (Nat.le_refl _), Nat.sub_self]; rfl
def combos : List (List Int) → List (List Int)
 | [] => [[]]
 | s :: ss => s.flatMap fun x => (combos ss).map fun r => x :: r
def vol : List (List Int) → Nat
 | [] => 1
 | s :: ss => max 1 s.length * vol ss
theorem vol_pos : ∀ ss, 0 < vol ss
 | [] => by unfold vol; omega
 | s :: ss => by unfold vol; exact Nat.mul_pos (by omega) (vol_pos ss)
theorem flatMap_len {α β : Type} (f : α → List β) (k : Nat) : ∀ l : List α, (∀ a ∈ l, (f a).length = k) → (l.flatMap f).length = l.length * k
 | [], _ => by simp
 | a :: l, h => by
  rw [List.flatMap_cons, List.length_append, h a List.mem_cons_self, flatMap_len f k l fun b hb => h b (List.mem_cons_of_mem _ hb), List.length_cons, Nat.succ_mul, Nat.add_comm]
def inC : List Int → List (List Int) → Prop
 | [], [] => True
 | x :: r, s :: ss => x ∈ s ∧ inC r ss
 | _, _ => False
def ascS (acc : List Int) (x : Int) : List Int := if acc.getLast? = some x then acc else acc ++ [x]
def asc (ns : List Int) : List Int := (sortI ns).foldl ascS []
theorem ascS_snoc (l : List Int) (y x : Int) : ascS (l ++ [y]) x = if y = x then l ++ [y] else l ++ [y] ++ [x] := by
 unfold ascS
 rw [List.getLast?_concat]
 by_cases h : y = x
 · rw [if_pos (by rw [h]), if_pos h]
 · rw [if_neg (fun z => h (Option.some.inj z)), if_neg h]
theorem ascS_len (acc : List Int) (x : Int) : (ascS acc x).length ≤ acc.length + 1 := by
 unfold ascS
 split <;> simp
theorem combos_cons (s : List Int) (ss : List (List Int)) : combos (s :: ss) = s.flatMap fun x => (combos ss).map fun r => x :: r := rfl
theorem vol_app : ∀ (ss : List (List Int)) (s : List Int), vol (ss ++ [s]) = vol ss * max 1 s.length
 | [], s => by simp [vol]
 | t :: ss, s => by
  rw [List.cons_append]
  show max 1 t.length * vol (ss ++ [s]) = max 1 t.length * vol ss * max 1 s.length
  rw [vol_app ss s, Nat.mul_assoc]
abbrev Asc (l : List Int) : Prop := l.Pairwise (· < ·)
theorem fold_asc : ∀ (xs acc : List Int), Asc (acc ++ xs) → xs.foldl ascS acc = acc ++ xs
 | [], acc, _ => by simp
 | x :: xs, acc, h => by
  have e : ascS acc x = acc ++ [x] := by
   unfold ascS
   refine if_neg fun z => ?_
   have hm : x ∈ acc := List.mem_of_getLast? z
   have := (List.pairwise_append.mp h).2.2 x hm x List.mem_cons_self
   omega
  rw [List.foldl_cons, e, fold_asc xs (acc ++ [x]) (by simpa using h)]
  simp
theorem asc_self {l : List Int} (h : Asc l) : asc l = l := by
 unfold asc
 rw [← sortI_of (List.Perm.refl l) (h.imp fun z => Int.le_of_lt z)]
 exact fold_asc l [] h
theorem asc_filter {l : List Int} (p : Int → Bool) (h : Asc l) : Asc (l.filter p) := h.sublist List.filter_sublist
theorem cutT {α : Type} (xs : List α) {k : Nat} (h : k ≤ xs.length) : cutD xs none (some (k : Int)) = xs.take k := by
 unfold cutD
 rw [HT.sIx_nat, HT.sIx_none, List.drop_zero, Nat.sub_zero, Nat.min_eq_left h]
theorem cutR {α : Type} (xs : List α) {k : Nat} (h : k ≤ xs.length) : cutD xs (some (k : Int)) none = xs.drop k := by
 unfold cutD
 rw [HT.sIx_nat, HT.sIx_none, Nat.min_eq_left h, ← List.length_drop, List.take_length]
structure SideOk (s : List Int) : Prop where
 asc : Asc s
 nn : ∀ x ∈ s, 0 ≤ x
theorem SideOk.filter {s : List Int} (h : SideOk s) (p : Int → Bool) : SideOk (s.filter p) := ⟨asc_filter p h.asc, fun x hx => h.nn x ((List.mem_filter.mp hx).1)⟩
theorem vol_split (xs ys : List (List Int)) : vol (xs ++ ys) = vol xs * vol ys := by
 induction xs with
 | nil => rw [List.nil_append]; show _ = 1 * _; rw [Nat.one_mul]
 | cons x xs ih =>
  rw [List.cons_append]
  show max 1 x.length * vol (xs ++ ys) = max 1 x.length * vol xs * vol ys
  rw [ih, Nat.mul_assoc]
end My
namespace My
open PySem Dl Tl
open L2 (ixN atI)
inductive All2 {α β : Type} (P : α → β → Prop) : List α → List β → Prop where
 | nil : All2 P [] []
 | cons {x : α} {y : β} {xs : List α} {ys : List β} (h : P x y) (t : All2 P xs ys) : All2 P (x :: xs) (y :: ys)
def OkP {α : Type} (o : Option α) (P : α → Prop) : Prop := ∃ a, o = some a ∧ P a
section
variable {α β γ E R : Type}
theorem OkP.ret {a : α} {P : α → Prop} (h : P a) : OkP (some a) P := ⟨a, rfl, h⟩
theorem OkP.bind {o : Option α} {f : α → Option β} {Q : α → Prop} {P : β → Prop} (h : OkP o Q) (k : ∀ a, Q a → OkP (f a) P) : OkP (o.bind f) P := by
 obtain ⟨a, rfl, q⟩ := h
 exact k a q
theorem OkP.mono {o : Option α} {P Q : α → Prop} (h : OkP o P) (k : ∀ a, P a → Q a) : OkP o Q := by
 obtain ⟨a, e, q⟩ := h
 exact ⟨a, e, k a q⟩
theorem OkP.iteB {c : Bool} {o o' : Option α} {P : α → Prop} (h : c = true → OkP o P) (h' : c = false → OkP o' P) : OkP (if c = true then o else o') P := by
 cases c with
 | true => rw [if_pos rfl]; exact h rfl
 | false => rw [if_neg Bool.false_ne_true]; exact h' rfl
theorem OkP.gz {n : Nat} {f : Unit → Option β} {P : β → Prop} (h : n ≤ 2 ^ 20) (k : OkP (f ()) P) : OkP ((Tl.gz n).bind f) P := by rw [gz_ok h]; exact k
theorem OkP.gb {b : Bool} {f : Unit → Option β} {P : β → Prop} (h : b = true) (k : OkP (f ()) P) : OkP ((Tl.gb b).bind f) P := by rw [gb_ok h]; exact k
theorem OkP.eq {o : Option α} {P : α → Prop} (h : OkP o P) {a : α} (k : ∀ b, P b → b = a) : o = some a := by
 obtain ⟨b, e, q⟩ := h
 rw [e, k b q]
theorem OkP.fold {body : α → E → Option E} (P : List α → E → Prop) : ∀ (pre xs : List α) (e : E), P pre e → (∀ p x q e, pre ++ xs = p ++ x :: q → P p e → OkP (body x e) (P (p ++ [x]))) → OkP (foldT body xs e) (P (pre ++ xs))
 | pre, [], e, h, _ => by rw [List.append_nil]; exact OkP.ret h
 | pre, x :: xs, e, h, k => by
  refine OkP.bind (f := fun e' => foldT body xs e') (k pre x xs e rfl h) fun e' h' => ?_
  have := OkP.fold P (pre ++ [x]) xs e' h' fun p y q e2 eq h2 => k p y q e2 (by rw [← eq, List.append_assoc]; rfl) h2
  rw [List.append_assoc] at this
  exact this
theorem OkP.forAll {body : α → E → Option (Cf E R)} (P : List α → E → Prop) : ∀ (pre xs : List α) (e : E), P pre e → (∀ p x q e, pre ++ xs = p ++ x :: q → P p e → OkP (body x e) fun o => ∃ e', o = .nx e' ∧ P (p ++ [x]) e') → OkP (forT body xs e) fun o => ∃ e', o = .nx e' ∧ P (pre ++ xs) e'
 | pre, [], e, h, _ => by rw [List.append_nil]; exact OkP.ret ⟨e, rfl, h⟩
 | pre, x :: xs, e, h, k => by
  obtain ⟨o, e1, e', rfl, h'⟩ := k pre x xs e rfl h
  have := OkP.forAll P (pre ++ [x]) xs e' h' fun p y q e2 eq h2 => k p y q e2 (by rw [← eq, List.append_assoc]; rfl) h2
  rw [List.append_assoc] at this
  unfold forT
  rw [e1]
  exact this
theorem OkP.forI {body : α → E → Option (Cf E R)} (P : E → Prop) (xs : List α) (e : E) (h : P e) (k : ∀ x ∈ xs, ∀ e, P e → OkP (body x e) fun o => ∃ e', o = .nx e' ∧ P e') : OkP (forT body xs e) fun o => ∃ e', o = .nx e' ∧ P e' :=
 OkP.forAll (fun _ => P) [] xs e h fun p x q e eq h' => k x (by rw [show xs = p ++ x :: q from eq]; simp) e h'
theorem OkP.kNx {o : Option (Cf E R)} {P : E → Prop} {f : E → Option β} {g : R → Option β} {Q : β → Prop} (h : OkP o fun o => ∃ e', o = .nx e' ∧ P e') (k : ∀ e, P e → OkP (f e) Q) : OkP (o.bind fun v => v.k f g) Q := by
 obtain ⟨a, rfl, e', rfl, p⟩ := h
 exact k e' p
theorem OkP.mapT {f : α → Option β} (P : α → β → Prop) : ∀ (xs : List α), (∀ x ∈ xs, OkP (f x) (P x)) → OkP (Tl.mapT f xs) fun ys => All2 P xs ys
 | [], _ => OkP.ret .nil
 | x :: xs, h => by
  refine OkP.bind (f := fun y => (Tl.mapT f xs).bind fun ys => some (y :: ys)) (h x List.mem_cons_self) fun y hy => ?_
  refine OkP.bind (OkP.mapT P xs fun z hz => h z (List.mem_cons_of_mem _ hz)) fun ys hys => ?_
  exact OkP.ret (.cons hy hys)
theorem OkP.mapE {f : α → E → Option (β × E)} (P : E → Prop) (Q : α → β → Prop) : ∀ (xs : List α) (e : E), P e → (∀ x ∈ xs, ∀ e, P e → OkP (f x e) fun r => Q x r.1 ∧ P r.2) → OkP (Tl.mapE f xs e) fun r => All2 Q xs r.1 ∧ P r.2
 | [], e, h, _ => OkP.ret ⟨.nil, h⟩
 | x :: xs, e, h, k => by
  refine OkP.bind (f := fun y => (Tl.mapE f xs y.2).bind fun ys => some (y.1 :: ys.1, ys.2)) (k x List.mem_cons_self e h) fun y hy => ?_
  refine OkP.bind (OkP.mapE P Q xs y.2 hy.2 fun z hz => k z (List.mem_cons_of_mem _ hz)) fun ys hys => ?_
  exact OkP.ret ⟨.cons hy.1 hys.1, hys.2⟩
theorem mapF_filter' {f : α → Option (Option β)} {g : α → β} {p : α → Bool} : ∀ (xs : List α), (∀ x ∈ xs, f x = some (if p x = true then some (g x) else none)) → Tl.mapF f xs = some ((xs.filter p).map g)
 | [], _ => rfl
 | x :: xs, h => by
  unfold Tl.mapF
  rw [h x List.mem_cons_self, mapF_filter' xs fun y hy => h y (List.mem_cons_of_mem _ hy)]
  by_cases q : p x = true
  · rw [if_pos q, List.filter_cons_of_pos q]; rfl
  · rw [if_neg q, List.filter_cons_of_neg q]; rfl
theorem forall2_len {P : α → β → Prop} {xs : List α} {ys : List β} (h : All2 P xs ys) : ys.length = xs.length := by
 induction h with
 | nil => rfl
 | cons _ _ ih => rw [List.length_cons, List.length_cons, ih]
theorem forall2_mem {P : α → β → Prop} {xs : List α} {ys : List β} (h : All2 P xs ys) : ∀ y ∈ ys, ∃ x ∈ xs, P x y := by
 induction h with
 | nil => exact fun y hy => nomatch hy
 | cons h1 _ ih =>
  intro y hy
  rcases List.mem_cons.mp hy with rfl | hy
  · exact ⟨_, List.mem_cons_self, h1⟩
  · obtain ⟨x, hx, hp⟩ := ih y hy
    exact ⟨x, List.mem_cons_of_mem _ hx, hp⟩
theorem forall2_get {P : α → β → Prop} {xs : List α} {ys : List β} (h : All2 P xs ys) : ∀ (i : Nat) (y : β), ys[i]? = some y → ∃ x, xs[i]? = some x ∧ P x y := by
 induction h with
 | nil => intro i y h; simp at h
 | cons h1 _ ih =>
  intro i y h
  cases i with
  | zero => cases h; exact ⟨_, rfl, h1⟩
  | succ i => exact ih i y h
theorem OkP.rng {n : Int} {f : List Int → Option β} {P : β → Prop} (h0 : 0 ≤ n) (h : n ≤ 2 ^ 20) (k : OkP (f (rngI 0 n.toNat)) P) : OkP ((rngT n).bind f) P := by rw [rngT_ok' h0 h]; exact k
theorem OkP.at {xs : List α} {i : Int} {f : α → Option β} {P : β → Prop} (h0 : 0 ≤ i) (h1 : i < xs.length) (k : ∀ x, xs[i.toNat]? = some x → OkP (f x) P) : OkP ((atI xs i).bind f) P := by
 obtain ⟨x, e1, e2⟩ := atI_i h0 h1
 rw [e1]; exact k x e2
theorem ixN_i {n : Nat} {i : Int} (h0 : 0 ≤ i) (h1 : i < n) : ixN n i = some i.toNat := by unfold ixN; rw [if_pos h0, if_pos h1]
theorem setT_i {xs : List α} {i : Int} {a : α} (h0 : 0 ≤ i) (h1 : i < xs.length) : setT xs i a = some (xs.set i.toNat a) := by
 unfold setT; rw [ixN_i h0 h1]; rfl
end
end My
namespace Tl
open PySem Dl
open L2 (ixN atI)
open Classical in
noncomputable def relFn {α : Type} (enc : α → List S) (t : α → Option Of) : Fn := fun ss => if h : ∃ a, ss = enc a then t (Classical.choose h) else none
theorem relFn_eq {α : Type} {enc : α → List S} {t : α → Option Of} (inj : ∀ a b, enc a = enc b → a = b) (a : α) : relFn enc t (enc a) = t a := by
 unfold relFn
 have h : ∃ b, enc a = enc b := ⟨a, rfl⟩
 rw [dif_pos h, ← inj _ _ (Classical.choose_spec h)]
theorem relFn_le {α : Type} {enc : α → List S} {t : α → Option Of} {F : Fn} (h : ∀ a o, t a = some o → F (enc a) = some o) : Fn.le (relFn enc t) F := fun ss o e => by
 unfold relFn at e
 split at e
 · rename_i hx
   have h1 := h _ _ e
   rw [← Classical.choose_spec hx] at h1
   exact h1
 · cases e
noncomputable section
def N_checked : List Str := ["rows", "path", "outcome", "party", "branches", "cells", "kept", "first", "second", "others", "branch", "cell"]
def b_checked_1 (F_checked : Fn) : MS := (sAft [(10, true), (11, true)] (sExpr (mAppend (eVar 6) (eTup (aCons (eVar 11) (aCons (eCall [false, false] F_checked (aCons (eIx (eIx (eVar 4) (eVar 10)) (eC (.int 1))) (aCons (eTup (aStar (eVar 1) (aCons (eVar 10) aNil))) aNil))) aNil))))))
def f_checked (F_checked_cells F_checked : Fn) : MS :=
 (sSeq (sMatch (eVar 0) (kCaseG (pSeq 2 (plCons (pStr "end") (plCons pCap plNil))) [2] (tAnd (tVal (eB gIsi (aCons (eVar 2) (aCons (eC (.ty "int")) aNil)))) (tAnd (tNot (tVal (eB gIsi (aCons (eVar 2) (aCons (eC (.ty "bool")) aNil))))) (tCmp (eGe (eVar 2) (eC (.int 0)))))) (sRet (eTup (aCons (eC (.str "end")) (aCons (eVar 2) aNil)))) (kCaseG (pSeq 3 (plCons (pStr "ask") (plCons pCap (plCons (pStar 3 2 (plCons pCap (plCons pCap (plStar plNil)))) plNil)))) [3, 7, 8, 9] (tAnd (tVal (eB gIsi (aCons (eVar 3) (aCons (eC (.ty "int")) aNil)))) (tNot (tVal (eB gIsi (aCons (eVar 3) (aCons (eC (.ty "bool")) aNil)))))) (sSeq (sIf (tCmp (eLt (eVar 3) (eC (.int 0)))) sNever sNil)
 (sSeq (sSet 2 4 (eLst (aCons (eVar 7) (aCons (eVar 8) (aStar (eVar 9) aNil)))))
 (sSeq (sSet 2 5 (eCall [false, false] F_checked_cells (aCons (eVar 4) (aCons (eVar 1) aNil))))
 (sSeq (sSet 2 6 (eLst aNil))
 (sSeq (sFor (iEnu (aCons (eVar 5) aNil)) (gT 2 (gsCons (gN 10) (gsCons (gN 11) gsNil))) (b_checked_1 F_checked))
 (sRet (eTup (aCons (eC (.str "ask")) (aCons (eVar 3) (aCons (eB gTuple (aCons (eVar 6) aNil)) aNil)))))))))) kNil)))
 sNever)
def N_checked_cells : List Str := ["branches", "path", "seen", "cells", "branch", "standing", "odd", "behind", "cell", "first", "others"]
def b_checked_cells_1 (F_is_number : Fn) : MS := (sAft [(5, true)] (sSeq (sIf (tOr (tNot (tVal (eCall [false] F_is_number (aCons (eVar 5) aNil)))) (tCmp (eIn (eVar 5) (eVar 2)))) sNever sNil)
 (sExpr (mAppend (eVar 2) (eVar 5)))))
def b_checked_cells_2 (F_is_number F_ascending : Fn) : MS := (sAft [(4, true), (6, true), (7, true), (8, true), (9, true), (10, true)] (sSeq (sMatch (eVar 4) (kCase (pSeq 2 (plCons (pStar 2 1 (plCons pCap (plStar plNil))) (plCons pCap plNil))) [9, 10, 7] (sSet 2 8 (eLst (aCons (eVar 9) (aStar (eVar 10) aNil)))) (kCase pCap [6] sNever kNil)))
 (sSeq (sFor (iSeq (eVar 8)) (gN 5) (b_checked_cells_1 F_is_number))
 (sExpr (mAppend (eVar 3) (eCall [false] F_ascending (aCons (eVar 8) aNil)))))))
def f_checked_cells (F_is_number F_ascending : Fn) : MS :=
 (sSeq (sSet 2 2 (eLst aNil))
 (sSeq (sSet 2 3 (eLst aNil))
 (sSeq (sFor (iSeq (eVar 0)) (gN 4) (b_checked_cells_2 F_is_number F_ascending))
 (sRet (eVar 3)))))
def N_same : List Str := ["_law_actual", "_law_expected", "_law_wrong", "_law_k"]
def c_same_1 (F_same : Fn) : M Rv := eLc (iRng1 (aCons (eB gLen (aCons (eVar 1) aNil)) aNil)) (gN 3) (tNot (tVal (eCall [false, false] F_same (aCons (eIx (eVar 0) (eVar 3)) (aCons (eIx (eVar 1) (eVar 3)) aNil))))) (eVar 3) [3]
def f_same (F_same : Fn) : MS :=
 (sSeq (sIf (tCmp (eIs (eVar 1) (eC .non))) (sRet (eIs (eVar 0) (eC .non))) sNil)
 (sSeq (sIf (tVal (eB gIsi (aCons (eVar 1) (aCons (eC (.ty "bool")) aNil)))) (sRet (eAnd (eB gIsi (aCons (eVar 0) (aCons (eC (.ty "bool")) aNil))) (eEq (eVar 0) (eVar 1)))) sNil)
 (sSeq (sIf (tVal (eB gIsi (aCons (eVar 1) (aCons (eC (.ty "int")) aNil)))) (sRet (eAnd (eB gIsi (aCons (eVar 0) (aCons (eC (.ty "int")) aNil))) (eAnd (eNot (eB gIsi (aCons (eVar 0) (aCons (eC (.ty "bool")) aNil)))) (eEq (eVar 0) (eVar 1))))) sNil)
 (sSeq (sIf (tVal (eB gIsi (aCons (eVar 1) (aCons (eC (.ty "str")) aNil)))) (sRet (eAnd (eB gIsi (aCons (eVar 0) (aCons (eC (.ty "str")) aNil))) (eEq (eVar 0) (eVar 1)))) sNil)
 (sSeq (sIf (tAnd (tVal (eB gIsi (aCons (eVar 1) (aCons (eC (.ty "tuple")) aNil)))) (tNot (tVal (eB gIsi (aCons (eVar 0) (aCons (eC (.ty "tuple")) aNil)))))) (sRet (eC (.bl false))) sNil)
 (sSeq (sIf (tAnd (tVal (eB gIsi (aCons (eVar 1) (aCons (eC (.ty "list")) aNil)))) (tNot (tVal (eB gIsi (aCons (eVar 0) (aCons (eC (.ty "list")) aNil)))))) (sRet (eC (.bl false))) sNil)
 (sSeq (sIf (tCmp (eNe (eB gLen (aCons (eVar 0) aNil)) (eB gLen (aCons (eVar 1) aNil)))) (sRet (eC (.bl false))) sNil)
 (sSeq (sSet 2 2 (c_same_1 F_same))
 (sRet (eEq (eVar 2) (eLst aNil)))))))))))
def FnR_same : Nat → Fn
 | 0 => fun _ => none
 | n + 1 => mkFn 2 4 (f_same (FnR_same n))
def Fn_cells (F_is_number F_ascending : Fn) : Fn := mkFn 2 11 (f_checked_cells F_is_number F_ascending)
def FnR_checked (F_cells : Fn) : Nat → Fn
 | 0 => fun _ => none
 | n + 1 => mkFn 2 12 (f_checked F_cells (FnR_checked F_cells n))
theorem il_ns : isLook "NoneType" "str" = some false := by decide +kernel
theorem il_bs : isLook "bool" "str" = some false := by decide +kernel
theorem il_is : isLook "int" "str" = some false := by decide +kernel
theorem il_ls : isLook "list" "str" = some false := by decide +kernel
theorem il_ts : isLook "tuple" "str" = some false := by decide +kernel
theorem il_sl : isLook "str" "list" = some false := by decide +kernel
theorem il_st : isLook "str" "tuple" = some false := by decide +kernel
def plainN : Nat → D → Bool
 | 0, _ => false
 | _ + 1, .non => true
 | _ + 1, .bl _ => true
 | _ + 1, .int _ => true
 | _ + 1, .str x => PyData.strOk x
 | n + 1, .lst ds => decide (ds.length ≤ 2 ^ 16) && ds.all (plainN n)
 | n + 1, .tup ds => decide (ds.length ≤ 2 ^ 16) && ds.all (plainN n)
 | _ + 1, _ => false
open Classical in
noncomputable def sameB (a b : D) : Bool := decide (a = b)
def seqB (A : D) (xs : List D) : Prop := A = .lst xs ∨ A = .tup xs
theorem seqB_ix {A : D} {xs : List D} (h : seqB A xs) (i : Int) : dIx A (.int i) = (atI xs i).bind fun d => some (.val d) := by
 rcases h with rfl | rfl
 · exact ix_l xs i
 · exact ix_t xs i
theorem atI_fin (xs : List D) (k : Nat) (h : k < xs.length) : atI xs ((k : Nat) : Int) = some xs[k] := by
 rw [atI_nat, List.getElem?_eq_getElem h]
theorem ints_fin (n : Nat) : (rngI 0 n).map D.int = (List.finRange n).map fun (k : Fin n) => D.int ((k.val : Nat) : Int) := by
 unfold rngI
 apply List.ext_getElem
 · simp
 · intro i h1 h2
   simp
def wrongL (xs ys : List D) : List Int := ((List.finRange ys.length).filter fun k => !sameB (xs.getD k.val .non) ys[k.val]).map fun k => ((k.val : Nat) : Int)
theorem wrongL_nil {xs ys : List D} (hl : xs.length = ys.length) : (wrongL xs ys = []) = (xs = ys) := by
 unfold wrongL
 rw [List.map_eq_nil_iff, List.filter_eq_nil_iff]
 refine propext ⟨fun h => List.ext_getElem hl fun i h1 h2 => ?_, fun h q _ => ?_⟩
 · have := h ⟨i, h2⟩ (List.mem_finRange _)
   unfold sameB at this
   rw [List.getD_eq_getElem?_getD, List.getElem?_eq_getElem h1] at this
   simpa using this
 · subst h
   unfold sameB
   rw [List.getD_eq_getElem?_getD, List.getElem?_eq_getElem q.isLt]
   simp
local macro_rules | `(tactic| simp? only [$as,*] $[$lo]?) => `(tactic| simp only [Tl.ob_some, Tl.ob_none, Tl.ob_assoc, Tl.om_eq, Tl.ob_ite, Tl.gz_small, Tl.gb_true, Tl.tt_true, Tl.ft_false, Tl.ite_T, Tl.ite_F, Tl.ite_fun, Tl.b_not_t, Tl.b_not_f, Tl.b_at, Tl.b_af, Tl.b_ot, Tl.b_of, Tl.b_ta, Tl.b_fa, Tl.g_zero, Tl.g_succ, Tl.s_zero, Tl.s_succ, Tl.gd_zero, Tl.gd_succ, Tl.a_cons, Tl.a_nil, Tl.a_nil2, Tl.m_cons, Tl.m_nil, Tl.m_app, Tl.m_map, Tl.m_idf, Tl.l_cons, Tl.l_nil, Tl.l_map, Tl.l_app, Tl.e_map, Tl.e_cons, Tl.e_nil, Tl.r_zero, Tl.r_succ, Tl.tl_cons, Tl.tl_nil, Tl.any_cons', Tl.any_nil', Tl.all_cons', Tl.all_nil', Tl.mem_one, Tl.eqs_self, Tl.tt_and, Tl.cps_bind, Tl.cps_pure, Tl.cps_fail, Tl.cps_ofO, Tl.cps_ite, Tl.cps_var, Tl.varK_v, Tl.varK_o, Tl.cps_C, Tl.set_v, Tl.set_o, Tl.set_a, Tl.cps_peek_v, Tl.cps_peek_o, Tl.cps_peek_a, Tl.peekK_v, Tl.peekK_o, Tl.cps_toV_v, Tl.cps_toV_o, Tl.cps_toV_a, Tl.toVK_v, Tl.toVK_o, Tl.peeks_n, Tl.peeks_c, Tl.toVs_n, Tl.toVs_c, Tl.toVs_vals, Tl.toVs_vals0, Tl.toVs_mv, Tl.toVs_mv0, Tl.cps_bin, Tl.cps_aNil, Tl.cps_aCons, Tl.it_l, Tl.it_t, Tl.cps_aStar, Tl.cps_eB, Tl.cps_tup, Tl.cps_lst, Tl.ofI_i, Tl.cps_oNo, Tl.cps_oSome, Tl.cps_sl, Tl.cps_neg, Tl.cps_tru, Tl.cps_tVal, Tl.cps_tNot, Tl.cps_tAnd, Tl.cps_tOr, Tl.cps_eNot, Tl.cps_eAnd, Tl.cps_eOr, Tl.cps_eIf, Tl.ofBl_b, Tl.cps_tCmp, Tl.cps_yes, Tl.cps_fld, Tl.cps_frz, Tl.prep_n, Tl.prep_t, Tl.prep_f, Tl.prep_z, Tl.cps_call, Tl.callO_ret, Tl.callO_ex, Tl.na_v, Tl.na_o, Tl.cps_eCall, Tl.ssOfs_n, Tl.ssOfs_c, Tl.ssOf_v, Tl.ssOf_a, Tl.ssK_v, Tl.ssK_o, Tl.dist_n, Tl.dist_v, Tl.dist_a, Tl.isAli_v, Tl.isAli_a, Tl.noAli_n, Tl.noAli_v, Tl.noAli_a, Tl.scaR_o, Tl.scaR_v, Tl.sca_n, Tl.sca_b, Tl.sca_i, Tl.sca_s, Tl.sca_l, Tl.sca_t, Tl.sca_ob, Tl.back_n, Tl.back_v, Tl.back_a, Tl.back1_eq, Tl.b1K_o, Tl.b1K_v, Tl.ownOr_o, Tl.cps_makeM, Tl.makeO_ret, Tl.makeO_ex, Tl.cps_eMake, Tl.cps_ckC, Tl.cps_ckO, Tl.cps_meth, Tl.cps_own2, Tl.cps_ownIn, Tl.ownLst_a, Tl.ownK_o, Tl.cps_append, Tl.ofL_l, Tl.cps_extend, Tl.cps_clear, Tl.cps_iSeq, Tl.cps_rng1, Tl.cps_rng2, Tl.cps_zip, Tl.cps_enu, Tl.rangeD_eq, Tl.dRng1_eq, Tl.dRng2_eq, Tl.dZip_l, Tl.dZip_t, Tl.dEnum_l, Tl.dEnum_t, Tl.sSeq_eq, Tl.sq_none, Tl.sq_nx, Tl.sq_rt, Tl.sq_ct, Tl.sq_bk, Tl.sq_ex, Tl.sq_bind, Tl.sq_ite, Tl.thenS_eq, Tl.sNil_eq, Tl.sPass_eq, Tl.sBreak_eq, Tl.sCont_eq, Tl.sNever_eq, Tl.sRetN_eq, Tl.sExpr_eq, Tl.retV_v, Tl.retV_o, Tl.retV_a, Tl.retK_v, Tl.retK_o, Tl.sRet_eq, Tl.setV_v, Tl.setV_o, Tl.setV_a, Tl.setK_v, Tl.setK_o, Tl.sSet_eq, Tl.sIf_eq, Tl.sFor_eq, Tl.asg_eq, Tl.sAsg_eq, Tl.sSetIx_eq, Tl.ownObj_a, Tl.ownObK_o, Tl.sSetF_eq, Tl.putF2_n, Tl.putF2_c, Tl.lkF_c, Tl.fldO_eq, Tl.nrm_n, Tl.nrm_k, Tl.nrm_f, Tl.frz1_o, Tl.frz1_v, Tl.frz1_n, Tl.kil_n, Tl.kil_c, Tl.sFore_eq, Tl.sAft_eq, Tl.sFz_eq, Tl.aq_bind, Tl.aq_ite, Tl.aq_none, Tl.aq_nx, Tl.aq_ct, Tl.aq_bk, Tl.aq_rt, Tl.aq_ex, Tl.sRtA_eq, Tl.rq_bind, Tl.rq_ite, Tl.rq_none, Tl.rq_rtv, Tl.rq_rto, Tl.rq_ex, Tl.gN_eq, Tl.gT_eq, Tl.gsN_eq, Tl.gsC_eq, Tl.rtn_bind, Tl.rtn_ite, Tl.rtn_none, Tl.rtn_nx, Tl.rtn_rtv, Tl.rtn_rto, Tl.rtn_ex, Tl.post_n, Tl.post_v, Tl.post_o, Tl.sq_lpO, Tl.aq_lpO, Tl.sq_k, Tl.aq_k, Tl.rq_k, Tl.rtn_k, Tl.ob_k, Tl.cfO_nx, Tl.cfO_ct, Tl.cfO_bk, Tl.cfO_rt, Tl.cps_lc, Tl.noOwn_n, Tl.noOwn_c, Tl.isOwn_o, Tl.isOwn_v, Tl.isOwn_n, Tl.wipe_n, Tl.wipe_c, Tl.back_n', Tl.back_c', Tl.add_ii, Tl.add_tt, Tl.add_ll, Tl.sub_ii, Tl.mul_ii, Tl.div_ii, Tl.mod_ii, Tl.pow_ii, Tl.lt_ii, Tl.le_ii, Tl.gt_ii, Tl.ge_ii, Tl.eO_none, Tl.eO_some, Tl.lt_io, Tl.gt_io, Tl.lt_oi, Tl.gt_oi, Tl.is_oi, Tl.isn_oi, Tl.is_ot, Tl.isn_ot, Tl.sca_oi, Tl.sca_ob', Tl.is_bb, Tl.isn_bb, Tl.is_nn, Tl.is_in, Tl.is_ln, Tl.is_tn, Tl.is_on, Tl.isn_nn, Tl.isn_in, Tl.isn_ln, Tl.isn_tn, Tl.isn_on, Tl.it_sq, Tl.eSq_t, Tl.eSq_l, Tl.len_sq, Tl.eq_ii, Tl.ne_ii, Tl.eq_bb, Tl.ne_bb, Tl.eq_li, Tl.ne_li, Tl.eq_ti, Tl.ne_ti, Tl.eq_l0, Tl.ne_l0, Tl.in_il, Tl.in_it, Tl.in_is, Tl.notIn_il, Tl.notIn_it, Tl.notIn_is, Tl.in_rl, Tl.notIn_rl, Tl.tru_n, Tl.tru_b, Tl.tru_i, Tl.tru_l, Tl.tru_t, Tl.ix_lc, Tl.ix_tc, Tl.ix_lm, Tl.ix_tm, Tl.ix_sm, Tl.ix_sc, Tl.atI_map', Tl.at0, Tl.at1, Tl.at2, Tl.at3, Tl.set_map, Tl.sl_l, Tl.sl_t, Tl.len_l, Tl.len_t, Tl.len_s, Tl.int_i, Tl.int_b, Tl.max_ii, Tl.min_ii, Tl.list_l, Tl.list_t, Tl.list_s, Tl.tuple_l, Tl.tuple_t, Tl.tuple_s, Tl.sorted_i, Tl.maxL_i, Tl.minL_i, Tl.sum_i, Tl.all_b, Tl.any_b, Tl.isi_eq, Tl.ty_n, Tl.ty_b, Tl.ty_i, Tl.ty_s, Tl.ty_l, Tl.ty_t, Tl.il_ii, Tl.il_ib, Tl.il_it, Tl.il_il, Tl.il_bb, Tl.il_bi, Tl.il_bl, Tl.il_bt, Tl.il_ll, Tl.il_lt, Tl.il_li, Tl.il_lb, Tl.il_tt, Tl.il_tl, Tl.il_ti, Tl.il_tb, Tl.il_ss, Tl.il_si, Tl.il_sb, Tl.il_ni, Tl.il_nb, Tl.il_nl, Tl.il_nt, Tl.cps_lc2, Tl.augK_v, Tl.sAug_eq, Tl.gadd_ii, Tl.gsub_ii, Tl.gmul_ii, Tl.cps_ownIx, Tl.cps_ownCall, Tl.cps_lrg, Tl.cps_iOwn, Tl.cps_lOwn, Tl.cps_lent, Tl.lentK_eq, Tl.lent_and, Tl.scaRv_i, Tl.scaRv_b, Tl.frzA_n, Tl.frzA_c, Tl.fzS_n, Tl.fzS_v, Tl.fzS_o, Tl.ownL_n, Tl.ownL_no, Tl.ownL_v, Tl.ownL_o, Tl.e_tree_fin, Tl.e_tree_ask, Tl.ix_tree0, Tl.ix_tree1, Tl.ix_tree2, Tl.len_tree, Tl.eq_tag_end, Tl.eq_tag_ask, Tl.ne_tag_end, Tl.ne_tag_ask, Tl.so_t, Tl.so_f, Tl.ite_same, Tl.cps_un, Tl.l1_o, Tl.cps_aTmpR, Tl.cps_aTmp, Tl.cps_aConsT, Tl.tkK_v, Tl.tkK_o, Tl.tk_z, Tl.tk_s, Tl.cps_callT, Tl.cps_eCallT, Tl.cps_eCallK, Tl.cps_dix, Tl.il_ns, Tl.il_bs, Tl.il_is, Tl.il_ls, Tl.il_ts, Tl.il_sl, Tl.il_st, reduceIte, Nat.reduceAdd, Nat.reduceSub, Nat.reduceMul, Nat.reduceLT, Nat.reduceGT, Nat.reduceLeDiff, Nat.reduceEqDiff, Nat.reduceBEq, Nat.reduceBNe, Int.reduceNeg, Int.reduceAdd, Int.reduceSub, Int.reduceMul, Int.reduceLT, Int.reduceLE, Int.reduceGT, Int.reduceGE, Int.reduceEq, Int.reduceNe, Int.reduceBEq, Int.reduceBNe, Int.reducePow, $as,*] $[$lo]?)
theorem wrong_t {n : Nat} {A B : D} {xs ys : List D} (hA : seqB A xs) (hB : seqB B ys) (hl : xs.length = ys.length) (hx : xs.all (plainN n) = true) (hy : ys.all (plainN n) = true) (hz : ys.length ≤ 2 ^ 16)
  (ih : ∀ a b, plainN n a = true → plainN n b = true → FnR_same n [.val a, .val b] = some (.ret (.val (.bl (sameB a b))) [.val a, .val b]))
  {γ : Type} {kx : Xn → List S → Option γ} {k : Rv → List S → Option γ} : cps (c_same_1 (FnR_same n)) [.val A, .val B, .no, .no] kx k = k (.own (.lst ((wrongL xs ys).map D.int))) [.val A, .val B, .no, .no] := by
 have hB' : gLen [B] = some (.val (.int (ys.length : Nat))) := by rcases hB with rfl | rfl <;> rfl
 have hh := fun (h' : List D → List S → Option γ) => cps_lcQ (e := fun (k : Fin ys.length) => D.int ((k.val : Nat) : Int)) (e' := D.int) (ρ := [.val A, .val B, .no, .no]) (kx := kx) (tg := gN 3) (tt := tNot (tVal (eCall [false, false] (FnR_same n) (aCons (eIx (eVar 0) (eVar 3)) (aCons (eIx (eVar 1) (eVar 3)) aNil))))) (te := eVar 3) (vs := [3])
  (p := fun k => !sameB (xs.getD k.val .non) ys[k.val]) (f := fun k => ((k.val : Nat) : Int)) (List.finRange ys.length) (fun q => by
   have hq : q.val < xs.length := by rw [hl]; exact q.isLt
   have h1 := atI_fin xs q.val hq
   have h2 := atI_fin ys q.val q.isLt
   have h0 : xs.getD q.val .non = xs[q.val] := by rw [List.getD_eq_getElem?_getD, List.getElem?_eq_getElem hq]; rfl
   have h3 := ih xs[q.val] ys[q.val] (List.all_eq_true.mp hx _ (List.getElem_mem _)) (List.all_eq_true.mp hy _ (List.getElem_mem _))
   rw [h0]
   simp? only [lcS, seqB_ix hA, seqB_ix hB, h1, h2, h3]) h'
 simp? only [c_same_1, hB']
 rw [My.rngT_ok (by omega), Option.bind_some, ints_fin, hh]
 rfl
theorem same_true : ∀ (n : Nat) (a b : D), plainN n a = true → plainN n b = true → FnR_same n [.val a, .val b] = some (.ret (.val (.bl (sameB a b))) [.val a, .val b])
 | 0, a, b, ha, _ => by cases ha
 | n + 1, a, b, ha, hb => by
  show mkFn 2 4 (f_same (FnR_same n)) _ = _
  rw [mkFn_eq]
  have n0 : dIsN .non .non = some (.val (.bl true)) := rfl
  have n1 : ∀ i, dIsN (.int i) .non = some (.val (.bl false)) := fun _ => rfl
  have n2 : ∀ i, dIsN (.bl i) .non = some (.val (.bl false)) := fun _ => rfl
  have n3 : ∀ i, dIsN (.str i) .non = some (.val (.bl false)) := fun _ => rfl
  have n4 : ∀ i, dIsN (.lst i) .non = some (.val (.bl false)) := fun _ => rfl
  have n5 : ∀ i, dIsN (.tup i) .non = some (.val (.bl false)) := fun _ => rfl
  cases b with
  | non =>
   cases a <;> first | (cases ha; done) | skip
   all_goals simp? only [f_same, eIs, n0, n1, n2, n3, n4, n5]
   all_goals simp [sameB]
  | int j =>
   cases a <;> first | (cases ha; done) | skip
   all_goals simp? only [f_same, eIs, eEq, n0, n1, n2, n3, n4, n5]
   all_goals simp [sameB]
  | bl j =>
   cases a <;> first | (cases ha; done) | skip
   all_goals simp? only [f_same, eIs, eEq, n0, n1, n2, n3, n4, n5]
   all_goals simp [sameB]
  | str y =>
   have hy : PyData.strOk y = true := hb
   cases a with
   | str x =>
    have hx : PyData.strOk x = true := ha
    simp? only [f_same, eIs, eEq, n0, n1, n2, n3, n4, n5, eq_ok' hx hy]
    simp [sameB]
   | _ =>
    first
    | (cases ha; done)
    | (simp? only [f_same, eIs, eEq, n0, n1, n2, n3, n4, n5]
       simp [sameB])
  | lst ys =>
   obtain ⟨hb1, hb2⟩ := Bool.and_eq_true_iff.mp (show (decide (ys.length ≤ 2 ^ 16) && ys.all (plainN n)) = true from hb)
   have hb1 := of_decide_eq_true hb1
   cases a with
   | lst xs =>
    obtain ⟨ha1, ha2⟩ := Bool.and_eq_true_iff.mp (show (decide (xs.length ≤ 2 ^ 16) && xs.all (plainN n)) = true from ha)
    have hne : dNe (.int ((xs.length : Nat) : Int)) (.int ((ys.length : Nat) : Int)) = some (.val (.bl (!decide (((xs.length : Nat) : Int) = ((ys.length : Nat) : Int))))) := ne_ii _ _
    by_cases hl : xs.length = ys.length
    · have hli : decide (((xs.length : Nat) : Int) = ((ys.length : Nat) : Int)) = true := decide_eq_true (by rw [hl])
      have wt := fun (γ : Type) (kx : Xn → List S → Option γ) (k : Rv → List S → Option γ) => wrong_t (γ := γ) (kx := kx) (k := k) (.inl rfl : seqB (.lst xs) xs) (.inl rfl : seqB (.lst ys) ys) hl ha2 hb2 hb1 (same_true n)
      simp? only [f_same, eIs, eEq, eNe, n0, n1, n2, n3, n4, n5, hne, hli, wt]
      have hw := wrongL_nil hl
      simp [sameB, hw]
    · have hli : decide (((xs.length : Nat) : Int) = ((ys.length : Nat) : Int)) = false := decide_eq_false (by omega)
      simp? only [f_same, eIs, eEq, eNe, n0, n1, n2, n3, n4, n5, hne, hli]
      have : xs ≠ ys := fun z => hl (by rw [z])
      simp [sameB, this]
   | _ =>
    first
    | (cases ha; done)
    | (simp? only [f_same, eIs, eEq, n0, n1, n2, n3, n4, n5]
       simp [sameB])
  | tup ys =>
   obtain ⟨hb1, hb2⟩ := Bool.and_eq_true_iff.mp (show (decide (ys.length ≤ 2 ^ 16) && ys.all (plainN n)) = true from hb)
   have hb1 := of_decide_eq_true hb1
   cases a with
   | tup xs =>
    obtain ⟨ha1, ha2⟩ := Bool.and_eq_true_iff.mp (show (decide (xs.length ≤ 2 ^ 16) && xs.all (plainN n)) = true from ha)
    have hne : dNe (.int ((xs.length : Nat) : Int)) (.int ((ys.length : Nat) : Int)) = some (.val (.bl (!decide (((xs.length : Nat) : Int) = ((ys.length : Nat) : Int))))) := ne_ii _ _
    by_cases hl : xs.length = ys.length
    · have hli : decide (((xs.length : Nat) : Int) = ((ys.length : Nat) : Int)) = true := decide_eq_true (by rw [hl])
      have wt := fun (γ : Type) (kx : Xn → List S → Option γ) (k : Rv → List S → Option γ) => wrong_t (γ := γ) (kx := kx) (k := k) (.inr rfl : seqB (.tup xs) xs) (.inr rfl : seqB (.tup ys) ys) hl ha2 hb2 hb1 (same_true n)
      simp? only [f_same, eIs, eEq, eNe, n0, n1, n2, n3, n4, n5, hne, hli, wt]
      have hw := wrongL_nil hl
      simp [sameB, hw]
    · have hli : decide (((xs.length : Nat) : Int) = ((ys.length : Nat) : Int)) = false := decide_eq_false (by omega)
      simp? only [f_same, eIs, eEq, eNe, n0, n1, n2, n3, n4, n5, hne, hli]
      have : xs ≠ ys := fun z => hl (by rw [z])
      simp [sameB, this]
   | _ =>
    first
    | (cases ha; done)
    | (simp? only [f_same, eIs, eEq, n0, n1, n2, n3, n4, n5]
       simp [sameB])
  | _ => cases hb
theorem ints_inj : ∀ {a b : List Int}, a.map D.int = b.map D.int → a = b
 | [], [], _ => rfl
 | [], _ :: _, h => by cases h
 | _ :: _, [], h => by cases h
 | x :: a, y :: b, h => by
  obtain ⟨h1, h2⟩ := List.cons.inj h
  rw [D.int.inj h1, ints_inj h2]
mutual
theorem tree_inj : ∀ {a b : QT}, e_tree a = e_tree b → a = b
 | .fin n, .fin m, h => by
  rw [e_tree_fin, e_tree_fin] at h
  have h := (List.cons.inj (List.cons.inj (D.tup.inj h)).2).1
  rw [D.int.inj h]
 | .fin n, .ask p bs, h => by
  rw [e_tree_fin, e_tree_a] at h
  have h := (List.cons.inj (List.cons.inj (D.tup.inj h)).2).2
  cases h
 | .ask p bs, .fin n, h => by
  rw [e_tree_fin, e_tree_a] at h
  have h := (List.cons.inj (List.cons.inj (D.tup.inj h)).2).2
  cases h
 | .ask p bs, .ask q cs, h => by
  rw [e_tree_a, e_tree_a] at h
  have h1 := (List.cons.inj (D.tup.inj h)).2
  have h2 := (List.cons.inj h1).1
  have h3 := (List.cons.inj (List.cons.inj h1).2).1
  rw [D.int.inj h2, trees_inj (D.tup.inj h3)]
theorem trees_inj : ∀ {a b : QTs}, e_trees a = e_trees b → a = b
 | .nil, .nil, _ => rfl
 | .nil, .cons c t r, h => by unfold e_trees at h; cases h
 | .cons c t r, .nil, h => by unfold e_trees at h; cases h
 | .cons c t r, .cons c' t' r', h => by
  unfold e_trees at h
  obtain ⟨h1, h2⟩ := List.cons.inj h
  obtain ⟨h3, h4⟩ := List.cons.inj (D.tup.inj h1)
  obtain ⟨h5, _⟩ := List.cons.inj h4
  rw [ints_inj (D.tup.inj h3), tree_inj h5, trees_inj h2]
end
theorem forL_ok {α E : Type} {e : α → D} {st : E → List S} {tg : D → List S → Option (List S)} {body : MS} {tb : α → E → Option E} : ∀ (xs : List α) (env env' : E), (∀ x ∈ xs, ∀ env env', tb x env = some env' → (tg (e x) (st env)).bind body = some (.nx (st env'))) → foldT tb xs env = some env' →
  forL tg body (xs.map e) (st env) = some (.nx (st env'))
 | [], env, env', _, h => by cases h; rfl
 | x :: xs, env, env', h, hf => by
  have hf : (tb x env).bind (foldT tb xs) = some env' := hf
  obtain ⟨e1, h1, h2⟩ := Option.bind_eq_some_iff.mp hf
  have h3 := h x List.mem_cons_self env e1 h1
  obtain ⟨ρ1, h4, h5⟩ := Option.bind_eq_some_iff.mp h3
  rw [List.map_cons]
  unfold forL
  rw [h4]
  dsimp only
  rw [h5]
  exact forL_ok xs e1 env' (fun y hy => h y (List.mem_cons_of_mem _ hy)) h2
section
variable {ρ : List S} {f : PF} {is : List Nat} {t : M Bool} {b : MS} {r : CF} {d : D} {ds : List D} {fe : M Rv}
theorem sMatch_eq : sMatch fe r ρ = cps fe ρ (fun e ρ => some (.ex e ρ)) fun x ρ => cps (toV x) ρ (fun e ρ => some (.ex e ρ)) r := by
 unfold sMatch
 rw [thenS_eq]
 simp only [cps_bind]
theorem kCase_s (h : f d = some (some ds)) : kCase f is b r d ρ = b (setD is ds ρ) := by unfold kCase; rw [h]
theorem kCaseG_n (h : f d = some none) : kCaseG f is t b r d ρ = r d ρ := by unfold kCaseG; rw [h]
theorem kCaseG_s (h : f d = some (some ds)) : kCaseG f is t b r d ρ = thenS t (fun ok => if ok = true then b else r d) (setD is ds ρ) := by unfold kCaseG; rw [h]
theorem setD_n (ds : List D) : setD [] ds ρ = ρ := by cases ds <;> rfl
theorem setD_c (i : Nat) (is : List Nat) (d : D) (ds : List D) : setD (i :: is) (d :: ds) ρ = setD is ds (ρ.set i (.val d)) := rfl
theorem kNil_eq : kNil d ρ = some (.nx ρ) := rfl
end
theorem plCons_ok {f : PF} {g : PFs} {d : D} {ds a b : List D} (h1 : f d = some (some a)) (h2 : g ds = some (some b)) : plCons f g (d :: ds) = some (some (a ++ b)) := by
 unfold plCons; dsimp only; rw [h1]; dsimp only; rw [h2]
theorem pSeq_t (n : Nat) (g : PFs) (ds : List D) : pSeq n g (.tup ds) = if ds.length = n then g ds else some none := rfl
theorem pStar_t (n i : Nat) (g : PFs) (ds : List D) : pStar n i g (.tup ds) = if 16384 < ds.length then none else if ds.length + 1 < n then some none else g (starD n i ds) := rfl
theorem starD_last (i : Nat) (ds : List D) : starD (i + 1) i ds = ds.take i ++ [.lst (ds.drop i)] := by
 unfold starD
 have e : (ds.drop i).length ≤ ds.length + 1 - (i + 1) := by rw [List.length_drop]; omega
 rw [List.take_of_length_le e, List.drop_of_length_le e, List.append_nil]
abbrev Br : Type := List Int × QT
abbrev e_tt (l : List (List Int)) : List D := List.map (fun x => D.tup (List.map D.int x)) l
abbrev e_brs (bs : List Br) : List D := List.map (fun x => D.tup [D.tup (List.map D.int x.1), e_tree x.2]) bs
section
variable {Fnum Fasc : Fn} {tasc : Bool × List Int → Option (List Int)}
def tb_cells1 (s : Int) (seen : List Int) : Option (List Int) := if s < 0 ∨ s ∈ seen then none else (gz (seen.length + 1)).bind fun _ => some (seen ++ [s])
def tb_cells2 (tasc : Bool × List Int → Option (List Int)) (b : Br) (env : List Int × List (List Int)) : Option (List Int × List (List Int)) :=
 if b.1 = [] ∨ 16384 < b.1.length then none else (foldT tb_cells1 b.1 env.1).bind fun seen => (tasc (false, b.1)).bind fun a => (gz (env.2.length + 1)).bind fun _ => some (seen, env.2 ++ [a])
def t_cells (tasc : Bool × List Int → Option (List Int)) (bs : List Br) : Option (List (List Int)) := (foldT (tb_cells2 tasc) bs ([], [])).bind fun r => some r.2
local macro_rules | `(tactic| simp? only [$as,*] $[$lo]?) => `(tactic| simp only [Tl.ob_some, Tl.ob_none, Tl.ob_assoc, Tl.om_eq, Tl.ob_ite, Tl.gz_small, Tl.gb_true, Tl.tt_true, Tl.ft_false, Tl.ite_T, Tl.ite_F, Tl.ite_fun, Tl.b_not_t, Tl.b_not_f, Tl.b_at, Tl.b_af, Tl.b_ot, Tl.b_of, Tl.b_ta, Tl.b_fa, Tl.g_zero, Tl.g_succ, Tl.s_zero, Tl.s_succ, Tl.gd_zero, Tl.gd_succ, Tl.a_cons, Tl.a_nil, Tl.a_nil2, Tl.m_cons, Tl.m_nil, Tl.m_app, Tl.m_map, Tl.m_idf, Tl.l_cons, Tl.l_nil, Tl.l_map, Tl.l_app, Tl.e_map, Tl.e_cons, Tl.e_nil, Tl.r_zero, Tl.r_succ, Tl.tl_cons, Tl.tl_nil, Tl.any_cons', Tl.any_nil', Tl.all_cons', Tl.all_nil', Tl.mem_one, Tl.eqs_self, Tl.tt_and, Tl.cps_bind, Tl.cps_pure, Tl.cps_fail, Tl.cps_ofO, Tl.cps_ite, Tl.cps_var, Tl.varK_v, Tl.varK_o, Tl.cps_C, Tl.set_v, Tl.set_o, Tl.set_a, Tl.cps_peek_v, Tl.cps_peek_o, Tl.cps_peek_a, Tl.peekK_v, Tl.peekK_o, Tl.cps_toV_v, Tl.cps_toV_o, Tl.cps_toV_a, Tl.toVK_v, Tl.toVK_o, Tl.peeks_n, Tl.peeks_c, Tl.toVs_n, Tl.toVs_c, Tl.toVs_vals, Tl.toVs_vals0, Tl.toVs_mv, Tl.toVs_mv0, Tl.cps_bin, Tl.cps_aNil, Tl.cps_aCons, Tl.it_l, Tl.it_t, Tl.cps_aStar, Tl.cps_eB, Tl.cps_tup, Tl.cps_lst, Tl.ofI_i, Tl.cps_oNo, Tl.cps_oSome, Tl.cps_sl, Tl.cps_neg, Tl.cps_tru, Tl.cps_tVal, Tl.cps_tNot, Tl.cps_tAnd, Tl.cps_tOr, Tl.cps_eNot, Tl.cps_eAnd, Tl.cps_eOr, Tl.cps_eIf, Tl.ofBl_b, Tl.cps_tCmp, Tl.cps_yes, Tl.cps_fld, Tl.cps_frz, Tl.prep_n, Tl.prep_t, Tl.prep_f, Tl.prep_z, Tl.cps_call, Tl.callO_ret, Tl.callO_ex, Tl.na_v, Tl.na_o, Tl.cps_eCall, Tl.ssOfs_n, Tl.ssOfs_c, Tl.ssOf_v, Tl.ssOf_a, Tl.ssK_v, Tl.ssK_o, Tl.dist_n, Tl.dist_v, Tl.dist_a, Tl.isAli_v, Tl.isAli_a, Tl.noAli_n, Tl.noAli_v, Tl.noAli_a, Tl.scaR_o, Tl.scaR_v, Tl.sca_n, Tl.sca_b, Tl.sca_i, Tl.sca_s, Tl.sca_l, Tl.sca_t, Tl.sca_ob, Tl.back_n, Tl.back_v, Tl.back_a, Tl.back1_eq, Tl.b1K_o, Tl.b1K_v, Tl.ownOr_o, Tl.cps_makeM, Tl.makeO_ret, Tl.makeO_ex, Tl.cps_eMake, Tl.cps_ckC, Tl.cps_ckO, Tl.cps_meth, Tl.cps_own2, Tl.cps_ownIn, Tl.ownLst_a, Tl.ownK_o, Tl.cps_append, Tl.ofL_l, Tl.cps_extend, Tl.cps_clear, Tl.cps_iSeq, Tl.cps_rng1, Tl.cps_rng2, Tl.cps_zip, Tl.cps_enu, Tl.rangeD_eq, Tl.dRng1_eq, Tl.dRng2_eq, Tl.dZip_l, Tl.dZip_t, Tl.dEnum_l, Tl.dEnum_t, Tl.sSeq_eq, Tl.sq_none, Tl.sq_nx, Tl.sq_rt, Tl.sq_ct, Tl.sq_bk, Tl.sq_ex, Tl.sq_bind, Tl.sq_ite, Tl.thenS_eq, Tl.sNil_eq, Tl.sPass_eq, Tl.sBreak_eq, Tl.sCont_eq, Tl.sNever_eq, Tl.sRetN_eq, Tl.sExpr_eq, Tl.retV_v, Tl.retV_o, Tl.retV_a, Tl.retK_v, Tl.retK_o, Tl.sRet_eq, Tl.setV_v, Tl.setV_o, Tl.setV_a, Tl.setK_v, Tl.setK_o, Tl.sSet_eq, Tl.sIf_eq, Tl.sFor_eq, Tl.asg_eq, Tl.sAsg_eq, Tl.sSetIx_eq, Tl.ownObj_a, Tl.ownObK_o, Tl.sSetF_eq, Tl.putF2_n, Tl.putF2_c, Tl.lkF_c, Tl.fldO_eq, Tl.nrm_n, Tl.nrm_k, Tl.nrm_f, Tl.frz1_o, Tl.frz1_v, Tl.frz1_n, Tl.kil_n, Tl.kil_c, Tl.sFore_eq, Tl.sAft_eq, Tl.sFz_eq, Tl.aq_bind, Tl.aq_ite, Tl.aq_none, Tl.aq_nx, Tl.aq_ct, Tl.aq_bk, Tl.aq_rt, Tl.aq_ex, Tl.sRtA_eq, Tl.rq_bind, Tl.rq_ite, Tl.rq_none, Tl.rq_rtv, Tl.rq_rto, Tl.rq_ex, Tl.gN_eq, Tl.gT_eq, Tl.gsN_eq, Tl.gsC_eq, Tl.rtn_bind, Tl.rtn_ite, Tl.rtn_none, Tl.rtn_nx, Tl.rtn_rtv, Tl.rtn_rto, Tl.rtn_ex, Tl.post_n, Tl.post_v, Tl.post_o, Tl.sq_lpO, Tl.aq_lpO, Tl.sq_k, Tl.aq_k, Tl.rq_k, Tl.rtn_k, Tl.ob_k, Tl.cfO_nx, Tl.cfO_ct, Tl.cfO_bk, Tl.cfO_rt, Tl.cps_lc, Tl.noOwn_n, Tl.noOwn_c, Tl.isOwn_o, Tl.isOwn_v, Tl.isOwn_n, Tl.wipe_n, Tl.wipe_c, Tl.back_n', Tl.back_c', Tl.add_ii, Tl.add_tt, Tl.add_ll, Tl.sub_ii, Tl.mul_ii, Tl.div_ii, Tl.mod_ii, Tl.pow_ii, Tl.lt_ii, Tl.le_ii, Tl.gt_ii, Tl.ge_ii, Tl.eO_none, Tl.eO_some, Tl.lt_io, Tl.gt_io, Tl.lt_oi, Tl.gt_oi, Tl.is_oi, Tl.isn_oi, Tl.is_ot, Tl.isn_ot, Tl.sca_oi, Tl.sca_ob', Tl.is_bb, Tl.isn_bb, Tl.is_nn, Tl.is_in, Tl.is_ln, Tl.is_tn, Tl.is_on, Tl.isn_nn, Tl.isn_in, Tl.isn_ln, Tl.isn_tn, Tl.isn_on, Tl.it_sq, Tl.eSq_t, Tl.eSq_l, Tl.len_sq, Tl.eq_ii, Tl.ne_ii, Tl.eq_bb, Tl.ne_bb, Tl.eq_li, Tl.ne_li, Tl.eq_ti, Tl.ne_ti, Tl.eq_l0, Tl.ne_l0, Tl.in_il, Tl.in_it, Tl.in_is, Tl.notIn_il, Tl.notIn_it, Tl.notIn_is, Tl.in_rl, Tl.notIn_rl, Tl.tru_n, Tl.tru_b, Tl.tru_i, Tl.tru_l, Tl.tru_t, Tl.ix_lc, Tl.ix_tc, Tl.ix_lm, Tl.ix_tm, Tl.ix_sm, Tl.ix_sc, Tl.atI_map', Tl.at0, Tl.at1, Tl.at2, Tl.at3, Tl.set_map, Tl.sl_l, Tl.sl_t, Tl.len_l, Tl.len_t, Tl.len_s, Tl.int_i, Tl.int_b, Tl.max_ii, Tl.min_ii, Tl.list_l, Tl.list_t, Tl.list_s, Tl.tuple_l, Tl.tuple_t, Tl.tuple_s, Tl.sorted_i, Tl.maxL_i, Tl.minL_i, Tl.sum_i, Tl.all_b, Tl.any_b, Tl.isi_eq, Tl.ty_n, Tl.ty_b, Tl.ty_i, Tl.ty_s, Tl.ty_l, Tl.ty_t, Tl.il_ii, Tl.il_ib, Tl.il_it, Tl.il_il, Tl.il_bb, Tl.il_bi, Tl.il_bl, Tl.il_bt, Tl.il_ll, Tl.il_lt, Tl.il_li, Tl.il_lb, Tl.il_tt, Tl.il_tl, Tl.il_ti, Tl.il_tb, Tl.il_ss, Tl.il_si, Tl.il_sb, Tl.il_ni, Tl.il_nb, Tl.il_nl, Tl.il_nt, Tl.cps_lc2, Tl.augK_v, Tl.sAug_eq, Tl.gadd_ii, Tl.gsub_ii, Tl.gmul_ii, Tl.cps_ownIx, Tl.cps_ownCall, Tl.cps_lrg, Tl.cps_iOwn, Tl.cps_lOwn, Tl.cps_lent, Tl.lentK_eq, Tl.lent_and, Tl.scaRv_i, Tl.scaRv_b, Tl.frzA_n, Tl.frzA_c, Tl.fzS_n, Tl.fzS_v, Tl.fzS_o, Tl.ownL_n, Tl.ownL_no, Tl.ownL_v, Tl.ownL_o, Tl.e_tree_fin, Tl.e_tree_ask, Tl.ix_tree0, Tl.ix_tree1, Tl.ix_tree2, Tl.len_tree, Tl.eq_tag_end, Tl.eq_tag_ask, Tl.ne_tag_end, Tl.ne_tag_ask, Tl.so_t, Tl.so_f, Tl.ite_same, Tl.cps_un, Tl.l1_o, Tl.cps_aTmpR, Tl.cps_aTmp, Tl.cps_aConsT, Tl.tkK_v, Tl.tkK_o, Tl.tk_z, Tl.tk_s, Tl.cps_callT, Tl.cps_eCallT, Tl.cps_eCallK, Tl.cps_dix, Tl.il_ns, Tl.il_bs, Tl.il_is, Tl.il_ls, Tl.il_ts, Tl.il_sl, Tl.il_st, Tl.sMatch_eq, Tl.setD_n, Tl.setD_c, Tl.kNil_eq, reduceIte, Nat.reduceAdd, Nat.reduceSub, Nat.reduceMul, Nat.reduceLT, Nat.reduceGT, Nat.reduceLeDiff, Nat.reduceEqDiff, Nat.reduceBEq, Nat.reduceBNe, Int.reduceNeg, Int.reduceAdd, Int.reduceSub, Int.reduceMul, Int.reduceLT, Int.reduceLE, Int.reduceGT, Int.reduceGE, Int.reduceEq, Int.reduceNe, Int.reduceBEq, Int.reduceBNe, Int.reducePow, $as,*] $[$lo]?)
theorem cells_step1 (hnum : ∀ i : Int, Fnum [.val (.int i)] = some (.ret (.val (.bl (decide (0 ≤ i)))) [.val (.int i)])) {s0 s1 s3 s4 s6 s7 s8 s9 s10 : S} (s : Int) (seen : List Int) {r : List Int} (h : tb_cells1 s seen = some r) :
  b_checked_cells_1 Fnum [s0, s1, .own (.lst (seen.map D.int)), s3, s4, .val (.int s), s6, s7, s8, s9, s10] = some (.nx [s0, s1, .own (.lst (r.map D.int)), s3, s4, .no, s6, s7, s8, s9, s10]) := by
 unfold tb_cells1 at h
 by_cases hs : s < 0 ∨ s ∈ seen
 · rw [if_pos hs] at h; cases h
 · rw [if_neg hs] at h
   obtain ⟨_, hg, h⟩ := Option.bind_eq_some_iff.mp h
   cases h
   have h0 : (0 : Int) ≤ s := by omega
   have h1 : ¬ s ∈ seen := fun z => hs (.inr z)
   simp? only [b_checked_cells_1, eIn, hnum, h0, h1, decide_true, decide_false, hg]
theorem cells_step2 (hnum : ∀ i : Int, Fnum [.val (.int i)] = some (.ret (.val (.bl (decide (0 ≤ i)))) [.val (.int i)]))
  (hasc : ∀ q : List Int, Fasc [.val (.lst (q.map D.int))] = (tasc (false, q)).bind fun r => some (.ret (.val (.tup (r.map D.int))) [.val (.lst (q.map D.int))])) {s0 s1 : S} (b : Br) (env r : List Int × List (List Int)) (h : tb_cells2 tasc b env = some r) :
  (gN 4 (D.tup [D.tup (List.map D.int b.1), e_tree b.2]) [s0, s1, .own (.lst (env.1.map D.int)), .own (.lst (e_tt env.2)), .no, .no, .no, .no, .no, .no, .no]).bind (b_checked_cells_2 Fnum Fasc) =
   some (.nx [s0, s1, .own (.lst (r.1.map D.int)), .own (.lst (e_tt r.2)), .no, .no, .no, .no, .no, .no, .no]) := by
 obtain ⟨c, t⟩ := b
 obtain ⟨seen, cells⟩ := env
 unfold tb_cells2 at h
 dsimp only at h ⊢
 by_cases hc : c = [] ∨ 16384 < c.length
 · rw [if_pos hc] at h; cases h
 rw [if_neg hc] at h
 obtain ⟨seen', h1, h⟩ := Option.bind_eq_some_iff.mp h
 obtain ⟨a, h2, h⟩ := Option.bind_eq_some_iff.mp h
 obtain ⟨_, h3, h⟩ := Option.bind_eq_some_iff.mp h
 cases h
 cases c with
 | nil => exact absurd (.inl rfl) hc
 | cons x xs =>
  have hz : ¬ 16384 < (x :: xs).length := fun z => hc (.inr z)
  have hz' : ¬ 16384 < (D.int x :: xs.map D.int).length := by rw [List.length_cons, List.length_map]; exact hz
  have hp : (pSeq 2 (plCons (pStar 2 1 (plCons pCap (plStar plNil))) (plCons pCap plNil))) (D.tup [D.tup (List.map D.int (x :: xs)), e_tree t]) = some (some [.int x, .lst (xs.map D.int), e_tree t]) := by
   show (if ([D.tup (List.map D.int (x :: xs)), e_tree t] : List D).length = 2 then (plCons (pStar 2 1 (plCons pCap (plStar plNil))) (plCons pCap plNil)) [D.tup (List.map D.int (x :: xs)), e_tree t] else some none) = _
   rw [if_pos (by simp)]
   have h0 : pStar 2 1 (plCons pCap (plStar plNil)) (D.tup (List.map D.int (x :: xs))) = some (some [.int x, .lst (xs.map D.int)]) := by
    show (if 16384 < (D.int x :: xs.map D.int).length then none else if (D.int x :: xs.map D.int).length + 1 < 2 then some none else (plCons pCap (plStar plNil)) (starD 2 1 (D.int x :: xs.map D.int))) = _
    rw [if_neg hz', if_neg (by rw [List.length_cons]; omega), starD_last]
    rfl
   exact plCons_ok h0 rfl
  have hl : gz (x :: xs).length = some () := if_pos (by rw [PySem.sizeLine_eq]; omega)
  have hfor : forL (gN 5) (b_checked_cells_1 Fnum) (D.int x :: List.map D.int xs) [s0, s1, .own (.lst (seen.map D.int)), .own (.lst (e_tt cells)), .val (D.tup [D.tup (D.int x :: List.map D.int xs), e_tree t]), .no, .no, .val (e_tree t), .val (.lst (D.int x :: List.map D.int xs)), .val (.int x), .val (.lst (xs.map D.int))] = some (.nx [s0, s1, .own (.lst (seen'.map D.int)), .own (.lst (e_tt cells)), .val (D.tup [D.tup (D.int x :: List.map D.int xs), e_tree t]), .no, .no, .val (e_tree t), .val (.lst (D.int x :: List.map D.int xs)), .val (.int x), .val (.lst (xs.map D.int))]) :=
   forL_ok (e := D.int) (st := fun seen : List Int => [s0, s1, .own (.lst (seen.map D.int)), .own (.lst (e_tt cells)), .val (D.tup [D.tup (D.int x :: List.map D.int xs), e_tree t]), .no, .no, .val (e_tree t), .val (.lst (D.int x :: List.map D.int xs)), .val (.int x), .val (.lst (xs.map D.int))]) (tg := gN 5) (body := b_checked_cells_1 Fnum) (tb := tb_cells1) (x :: xs) seen seen' (fun y _ env env' he => show b_checked_cells_1 Fnum _ = _ from cells_step1 hnum y env he) h1
  have hasc' : Fasc [.val (.lst (D.int x :: List.map D.int xs))] = some (.ret (.val (.tup (a.map D.int))) [.val (.lst (D.int x :: List.map D.int xs))]) := by
   have := hasc (x :: xs)
   rw [h2] at this
   exact this
  have he : e_tt (cells ++ [a]) = e_tt cells ++ [D.tup (a.map D.int)] := by show List.map _ _ = _; rw [List.map_append]; rfl
  have hp' := kCase_s (is := [9, 10, 7]) (b := sSet 2 8 (eLst (aCons (eVar 9) (aStar (eVar 10) aNil)))) (r := kCase pCap [6] sNever kNil) (ρ := [s0, s1, .own (.lst (seen.map D.int)), .own (.lst (e_tt cells)), .val (D.tup [D.tup (D.int x :: List.map D.int xs), e_tree t]), .no, .no, .no, .no, .no, .no]) hp
  have hp2 : kCase (pSeq 2 (plCons (pStar 2 1 (plCons pCap (plStar plNil))) (plCons pCap plNil))) [9, 10, 7] (sSet 2 8 (eLst (aCons (eVar 9) (aStar (eVar 10) aNil)))) (kCase pCap [6] sNever kNil) (D.tup [D.tup (D.int x :: List.map D.int xs), e_tree t]) [s0, s1, .own (.lst (seen.map D.int)), .own (.lst (e_tt cells)), .val (D.tup [D.tup (D.int x :: List.map D.int xs), e_tree t]), .no, .no, .no, .no, .no, .no] = _ := hp'
  rw [he]
  have hnil : xs.map D.int ++ [] = xs.map D.int := List.append_nil _
  have hL0 : List.map D.int (x :: xs) = (D.int x :: List.map D.int xs) := rfl
  rw [hL0]
  simp only [b_checked_cells_2, gN_eq, ob_some, s_zero, s_succ, sAft_eq, sSeq_eq, sMatch_eq, cps_var, g_zero, g_succ, varK_v, cps_toV_v, hp2]
  simp? only [hfor, hasc']
  rw [show gz (xs.length + 0 + 1) = some () from hl, Option.bind_some, h3, Option.bind_some]
theorem cells_true (hnum : ∀ i : Int, Fnum [.val (.int i)] = some (.ret (.val (.bl (decide (0 ≤ i)))) [.val (.int i)]))
  (hasc : ∀ q : List Int, Fasc [.val (.lst (q.map D.int))] = (tasc (false, q)).bind fun r => some (.ret (.val (.tup (r.map D.int))) [.val (.lst (q.map D.int))])) (bs : List Br) (path : D) (r : List (List Int)) (h : t_cells tasc bs = some r) :
  Fn_cells Fnum Fasc [.val (.lst (e_brs bs)), .val path] = some (.ret (.own (.lst (e_tt r))) [.val (.lst (e_brs bs)), .val path]) := by
 unfold t_cells at h
 obtain ⟨q, h1, h⟩ := Option.bind_eq_some_iff.mp h
 cases h
 show mkFn _ _ _ _ = _
 rw [mkFn_eq]
 have hfor := forL_ok (e := fun x : Br => D.tup [D.tup (List.map D.int x.1), e_tree x.2]) (st := fun env : List Int × List (List Int) => [.val (.lst (e_brs bs)), .val path, .own (.lst (env.1.map D.int)), .own (.lst (e_tt env.2)), .no, .no, .no, .no, .no, .no, .no]) (tg := gN 4) (body := b_checked_cells_2 Fnum Fasc) (tb := tb_cells2 tasc) bs ([], []) q (fun y _ env env' he => cells_step2 hnum hasc y env env' he) h1
 have hfor' : forL (gN 4) (b_checked_cells_2 Fnum Fasc) (e_brs bs) [.val (.lst (e_brs bs)), .val path, .own (.lst []), .own (.lst []), .no, .no, .no, .no, .no, .no, .no] = _ := hfor
 simp? only [f_checked_cells]
 rw [hfor']
 simp? only [Tl.ob_some]
def tb_checked (tc : QT → List Int → Option QT) (brs : List Br) (path : List Int) (it : Int × List Int) (kept : List Br) : Option (List Br) :=
 (atI brs it.1).bind fun b => (gz (path.length + 1)).bind fun _ => (tc b.2 (path ++ [it.1])).bind fun t => (gz (kept.length + 1)).bind fun _ => some (kept ++ [(it.2, t)])
def t_checked (tasc : Bool × List Int → Option (List Int)) : Nat → QT → List Int → Option QT
 | 0, _, _ => none
 | _ + 1, .fin x, _ => if 0 ≤ x then some (.fin x) else none
 | n + 1, .ask p bs, path => if bs.l.length < 2 ∨ 16384 < bs.l.length ∨ p < 0 then none else
  (t_cells tasc bs.l).bind fun cells => (enuT cells).bind fun es => (foldT (tb_checked (t_checked tasc n) bs.l path) es []).bind fun kept => some (.ask p (QTs.of kept))
theorem pStr_yes {x : Str} (h : PyData.strOk x = true) : pStr x (.str x) = some (some []) := by
 unfold pStr
 rw [eqS h h]
 simp
theorem checked_step {F : Fn} {tc : QT → List Int → Option QT} {bs : List Br} {path : List Int} (hF : ∀ t path r, tc t path = some r → F [.val (e_tree t), .val (.tup (path.map D.int))] = some (.ret (.val (e_tree r)) [.val (e_tree t), .val (.tup (path.map D.int))]))
  {s0 s2 s3 s5 s7 s8 s9 : S} (it : Int × List Int) (kept r : List Br) (h : tb_checked tc bs path it kept = some r) :
  (gT 2 (gsCons (gN 10) (gsCons (gN 11) gsNil)) (D.tup [.int it.1, .tup (it.2.map D.int)]) [s0, .val (.tup (path.map D.int)), s2, s3, .val (.lst (e_brs bs)), s5, .own (.lst (e_brs kept)), s7, s8, s9, .no, .no]).bind (b_checked_1 F) =
   some (.nx [s0, .val (.tup (path.map D.int)), s2, s3, .val (.lst (e_brs bs)), s5, .own (.lst (e_brs r)), s7, s8, s9, .no, .no]) := by
 unfold tb_checked at h
 obtain ⟨b, h1, h⟩ := Option.bind_eq_some_iff.mp h
 obtain ⟨_, h2, h⟩ := Option.bind_eq_some_iff.mp h
 obtain ⟨t, h3, h⟩ := Option.bind_eq_some_iff.mp h
 obtain ⟨_, h4, h⟩ := Option.bind_eq_some_iff.mp h
 cases h
 have hf := hF _ _ _ h3
 have hp : (path ++ [it.1]).map D.int = path.map D.int ++ [.int it.1] := by rw [List.map_append]; rfl
 rw [hp] at hf
 have he : e_brs (kept ++ [(it.2, t)]) = e_brs kept ++ [D.tup [D.tup (it.2.map D.int), e_tree t]] := by show List.map _ _ = _; rw [List.map_append]; rfl
 rw [he]
 simp? only [b_checked_1, gT_eq, gsN_eq, gsC_eq, h1, h2, hf, h4]
theorem checked_true (hnum : ∀ i : Int, Fnum [.val (.int i)] = some (.ret (.val (.bl (decide (0 ≤ i)))) [.val (.int i)]))
  (hasc : ∀ q : List Int, Fasc [.val (.lst (q.map D.int))] = (tasc (false, q)).bind fun r => some (.ret (.val (.tup (r.map D.int))) [.val (.lst (q.map D.int))])) : ∀ (n : Nat) (t : QT) (path : List Int) (r : QT), t_checked tasc n t path = some r →
  FnR_checked (Fn_cells Fnum Fasc) n [.val (e_tree t), .val (.tup (path.map D.int))] = some (.ret (.val (e_tree r)) [.val (e_tree t), .val (.tup (path.map D.int))])
 | 0, _, _, _, h => by cases h
 | n + 1, .fin x, path, r, h => by
  unfold t_checked at h
  by_cases hx : 0 ≤ x
  · rw [if_pos hx] at h
    cases h
    show mkFn _ _ _ _ = _
    rw [mkFn_eq]
    have hp : pSeq 2 (plCons (pStr "end") (plCons pCap plNil)) (.tup [.str "end", .int x]) = some (some [.int x]) := by
     show (if ([.str "end", .int x] : List D).length = 2 then plCons (pStr "end") (plCons pCap plNil) [.str "end", .int x] else some none) = _
     rw [if_pos (by simp)]
     exact plCons_ok (pStr_yes ok_end) rfl
    have hd : decide (0 ≤ x) = true := decide_eq_true hx
    simp? only [f_checked, kCaseG_s hp, eGe, hd]
  · rw [if_neg hx] at h; cases h
 | n + 1, .ask p bs, path, r, h => by
  unfold t_checked at h
  by_cases hb : bs.l.length < 2 ∨ 16384 < bs.l.length ∨ p < 0
  · rw [if_pos hb] at h; cases h
  rw [if_neg hb] at h
  obtain ⟨cells, h1, h⟩ := Option.bind_eq_some_iff.mp h
  obtain ⟨es, h2, h⟩ := Option.bind_eq_some_iff.mp h
  obtain ⟨kept, h3, h⟩ := Option.bind_eq_some_iff.mp h
  cases h
  have hl2 : 2 ≤ bs.l.length := by omega
  have hz : bs.l.length ≤ 16384 := by omega
  have hp0 : 0 ≤ p := by omega
  generalize hbr : bs.l = brs at *
  match brs, hl2 with
  | b0 :: b1 :: rest, _ =>
  rw [e_tree_a, e_trees_l, hbr]
  have hbd : List.map (fun x : Br => D.tup [D.tup (List.map D.int x.1), e_tree x.2]) (b0 :: b1 :: rest) = (D.tup [D.tup (List.map D.int b0.1), e_tree b0.2] :: D.tup [D.tup (List.map D.int b1.1), e_tree b1.2] :: e_brs rest) := rfl
  rw [hbd]
  show mkFn 2 12 (f_checked (Fn_cells Fnum Fasc) (FnR_checked (Fn_cells Fnum Fasc) n)) _ = _
  rw [mkFn_eq]
  have hn1 : pSeq 2 (plCons (pStr "end") (plCons pCap plNil)) (D.tup [.str "ask", .int p, .tup (D.tup [D.tup (List.map D.int b0.1), e_tree b0.2] :: D.tup [D.tup (List.map D.int b1.1), e_tree b1.2] :: e_brs rest)]) = some none := by
   rw [pSeq_t, if_neg (by simp)]
  have hs : pStar 3 2 (plCons pCap (plCons pCap (plStar plNil))) (.tup (D.tup [D.tup (List.map D.int b0.1), e_tree b0.2] :: D.tup [D.tup (List.map D.int b1.1), e_tree b1.2] :: e_brs rest)) = some (some [D.tup [D.tup (List.map D.int b0.1), e_tree b0.2], D.tup [D.tup (List.map D.int b1.1), e_tree b1.2], .lst (e_brs rest)]) := by
   have hzz : (D.tup [D.tup (List.map D.int b0.1), e_tree b0.2] :: D.tup [D.tup (List.map D.int b1.1), e_tree b1.2] :: e_brs rest).length = rest.length + 1 + 1 := by rw [List.length_cons, List.length_cons, List.length_map]
   rw [pStar_t, if_neg (by rw [hzz]; exact fun z => by simp only [List.length_cons] at hz; omega), if_neg (by rw [hzz]; omega), starD_last]
   rfl
  have hp2 : pSeq 3 (plCons (pStr "ask") (plCons pCap (plCons (pStar 3 2 (plCons pCap (plCons pCap (plStar plNil)))) plNil))) (D.tup [.str "ask", .int p, .tup (D.tup [D.tup (List.map D.int b0.1), e_tree b0.2] :: D.tup [D.tup (List.map D.int b1.1), e_tree b1.2] :: e_brs rest)]) = some (some [.int p, D.tup [D.tup (List.map D.int b0.1), e_tree b0.2], D.tup [D.tup (List.map D.int b1.1), e_tree b1.2], .lst (e_brs rest)]) := by
   rw [pSeq_t, if_pos (by simp)]
   have h0 := plCons_ok (f := pCap) (a := [D.int p]) (d := D.int p) rfl (plCons_ok (g := plNil) (b := []) (ds := []) hs rfl)
   exact plCons_ok (a := []) (pStr_yes ok_ask) h0
  have hd : decide (p < 0) = false := decide_eq_false (by omega)
  have hlen : gz (rest.length + 0 + 1 + 1) = some () := if_pos (by rw [PySem.sizeLine_eq]; simp only [List.length_cons] at hz; omega)
  have hlen2 : gz (rest.length + 1 + 1) = some () := if_pos (by rw [PySem.sizeLine_eq]; simp only [List.length_cons] at hz; omega)
  have hcells : Fn_cells Fnum Fasc [.val (.lst (D.tup [D.tup (List.map D.int b0.1), e_tree b0.2] :: D.tup [D.tup (List.map D.int b1.1), e_tree b1.2] :: e_brs rest)), .val (.tup (path.map D.int))] = some (.ret (.own (.lst (e_tt cells))) [.val (.lst (D.tup [D.tup (List.map D.int b0.1), e_tree b0.2] :: D.tup [D.tup (List.map D.int b1.1), e_tree b1.2] :: e_brs rest)), .val (.tup (path.map D.int))]) := cells_true hnum hasc (b0 :: b1 :: rest) (.tup (path.map D.int)) cells h1
  have hck : ∀ t path r, t_checked tasc n t path = some r → FnR_checked (Fn_cells Fnum Fasc) n [.val (e_tree t), .val (.tup (path.map D.int))] = some (.ret (.val (e_tree r)) [.val (e_tree t), .val (.tup (path.map D.int))]) := fun t path r hr => checked_true hnum hasc n t path r hr
  have hfor : forL (gT 2 (gsCons (gN 10) (gsCons (gN 11) gsNil))) (b_checked_1 (FnR_checked (Fn_cells Fnum Fasc) n)) (List.map (fun x : Int × List Int => D.tup [.int x.1, .tup (x.2.map D.int)]) es) [.val (D.tup [.str "ask", .int p, .tup (D.tup [D.tup (List.map D.int b0.1), e_tree b0.2] :: D.tup [D.tup (List.map D.int b1.1), e_tree b1.2] :: e_brs rest)]), .val (.tup (path.map D.int)), .no, .val (.int p), .val (.lst (D.tup [D.tup (List.map D.int b0.1), e_tree b0.2] :: D.tup [D.tup (List.map D.int b1.1), e_tree b1.2] :: e_brs rest)), .val (.lst (e_tt cells)), .own (.lst []), .val (D.tup [D.tup (List.map D.int b0.1), e_tree b0.2]), .val (D.tup [D.tup (List.map D.int b1.1), e_tree b1.2]), .val (.lst (e_brs rest)), .no, .no] = some (.nx [.val (D.tup [.str "ask", .int p, .tup (D.tup [D.tup (List.map D.int b0.1), e_tree b0.2] :: D.tup [D.tup (List.map D.int b1.1), e_tree b1.2] :: e_brs rest)]), .val (.tup (path.map D.int)), .no, .val (.int p), .val (.lst (D.tup [D.tup (List.map D.int b0.1), e_tree b0.2] :: D.tup [D.tup (List.map D.int b1.1), e_tree b1.2] :: e_brs rest)), .val (.lst (e_tt cells)), .own (.lst (e_brs kept)), .val (D.tup [D.tup (List.map D.int b0.1), e_tree b0.2]), .val (D.tup [D.tup (List.map D.int b1.1), e_tree b1.2]), .val (.lst (e_brs rest)), .no, .no]) :=
   forL_ok (e := fun x : Int × List Int => D.tup [.int x.1, .tup (x.2.map D.int)]) (st := fun kept : List Br => [.val (D.tup [.str "ask", .int p, .tup (D.tup [D.tup (List.map D.int b0.1), e_tree b0.2] :: D.tup [D.tup (List.map D.int b1.1), e_tree b1.2] :: e_brs rest)]), .val (.tup (path.map D.int)), .no, .val (.int p), .val (.lst (D.tup [D.tup (List.map D.int b0.1), e_tree b0.2] :: D.tup [D.tup (List.map D.int b1.1), e_tree b1.2] :: e_brs rest)), .val (.lst (e_tt cells)), .own (.lst (e_brs kept)), .val (D.tup [D.tup (List.map D.int b0.1), e_tree b0.2]), .val (D.tup [D.tup (List.map D.int b1.1), e_tree b1.2]), .val (.lst (e_brs rest)), .no, .no])
    (tg := gT 2 (gsCons (gN 10) (gsCons (gN 11) gsNil))) (body := b_checked_1 (FnR_checked (Fn_cells Fnum Fasc) n)) (tb := tb_checked (t_checked tasc n) (b0 :: b1 :: rest) path) es [] kept (fun it _ env env' he => checked_step (tc := t_checked tasc n) (bs := b0 :: b1 :: rest) (path := path) (F := FnR_checked (Fn_cells Fnum Fasc) n) hck it env env' he) h3
  rw [e_tree_ask]
  simp? only [f_checked, kCaseG_n hn1, kCaseG_s hp2, eLt, hd, hlen, hlen2, hcells, h2, hfor]
end
end
end Tl
namespace Tl
open PySem Dl
open L2 (ixN atI)
section
variable {γ : Type} {ρ : List S} {kx : Xn → List S → Option γ} {fa : M Rv} {lt : M (List Rv × List D)} {lt2 : M P2}
theorem cps_aTmp2R (k : P2 → List S → Option γ) (p : List Rv × List D) (ds : List D) : cps (aTmp2R p ds) ρ kx k = k (.ali (ρ.length + 1) :: p.1, ds, p.2) ρ := rfl
theorem cps_aTmp2 (k : P2 → List S → Option γ) : cps (aTmp2 fa lt) ρ kx k = cps fa ρ kx fun r ρ1 => (lstOf1 r).bind fun ds => cps lt ρ1 kx fun p ρ2 => k (.ali (ρ2.length + 1) :: p.1, ds, p.2) ρ2 := by
 unfold aTmp2; simp only [cps_bind, cps_ofO, cps_aTmp2R]
theorem cps_aConsT2 (k : P2 → List S → Option γ) : cps (aConsT2 fa lt2) ρ kx k = cps fa ρ kx fun r ρ1 => cps lt2 ρ1 kx fun p ρ2 => k (Dl.settle r :: p.1, p.2) ρ2 := by
 unfold aConsT2; simp only [cps_bind, cps_pure]
theorem cps_callT2 (mu : List Bool) (fn : Fn) (p : P2) (k : Rv → List S → Option γ) : cps (callT2 mu fn p) ρ kx k = cps (callM mu fn p.1) (ρ ++ [.own (.lst p.2.2)] ++ [.own (.lst p.2.1)]) (fun e ρ' => kx e (ρ'.take ρ.length)) fun r ρ' => tkK r fun r => k r (ρ'.take ρ.length) := by
 unfold callT2 cps
 dsimp only
 cases callM mu fn p.1 (ρ ++ [.own (.lst p.2.2)] ++ [.own (.lst p.2.1)]) with
 | none => rfl
 | some o =>
  cases o with
  | ex e ρ' => rfl
  | ok r ρ' => cases r <;> rfl
theorem cps_eCallT2 (mu : List Bool) (fn : Fn) (k : Rv → List S → Option γ) : cps (eCallT2 mu fn lt2) ρ kx k = cps lt2 ρ kx fun p ρ1 => cps (callT2 mu fn p) ρ1 kx k := by
 unfold eCallT2; simp only [cps_bind]
end
def ofTp : D → Option (List D)
 | .tup xs => some xs
 | _ => none
theorem ofTp_t (xs : List D) : ofTp (.tup xs) = some xs := rfl
section
variable {γ : Type} {ρ : List S} {kx : Xn → List S → Option γ} {fa fb : M Rv}
theorem cps_extendT (k : Rv → List S → Option γ) : cps (mExtendT fa fb) ρ kx k = cps fa ρ kx fun r ρ1 => (ownLst (Dl.settle r) ρ1).bind fun _ => cps fb ρ1 kx fun x ρ2 => cps (peek (Dl.settle x)) ρ2 kx fun d ρ3 => (ownLst (Dl.settle r) ρ3).bind fun p => (ofTp d).bind fun es => (gz (p.2.length + es.length)).bind fun _ => k (.val .non) (ρ3.set p.1 (.own (.lst (p.2 ++ es)))) := by
 unfold mExtendT; refine (cps_bind _ _ k).trans ?_
 congr 1; funext r ρ1
 have e1 : ∀ (h : Unit → List S → Option γ), cps (ckL (Dl.settle r)) ρ1 kx h = (ownLst (Dl.settle r) ρ1).bind fun _ => h () ρ1 := fun h => by
  unfold cps ckL; cases ownLst (Dl.settle r) ρ1 <;> rfl
 refine (cps_bind _ _ k).trans ?_
 rw [e1]
 congr 1; funext _
 refine (cps_bind _ _ k).trans ?_
 congr 1; funext x ρ2
 refine (cps_bind _ _ k).trans ?_
 congr 1; funext d ρ3
 unfold cps gz
 dsimp only
 cases ownLst (Dl.settle r) ρ3 with
 | none => cases d <;> rfl
 | some p =>
  obtain ⟨i, ds⟩ := p
  dsimp only [Option.bind]
  cases d with
  | tup es =>
   dsimp only [ofTp]
   by_cases h : ds.length + es.length ≤ sizeLine
   · rw [if_pos h, if_pos h]
   · rw [if_neg h, if_neg h]
  | _ => rfl
end
theorem any_bm {α : Type} (f : α → Bool) (xs : List α) : gAny [.lst (xs.map fun a => D.bl (f a))] = some (.val (.bl ((xs.map f).any id))) := by
 have := any_b (xs.map f)
 rw [List.map_map] at this
 exact this
theorem all_bm {α : Type} (f : α → Bool) (xs : List α) : gAll [.lst (xs.map fun a => D.bl (f a))] = some (.val (.bl ((xs.map f).all id))) := by
 have := all_b (xs.map f)
 rw [List.map_map] at this
 exact this
theorem is_otree (o : Option QT) : dIsN (eO e_tree o) .non = some (.val (.bl o.isNone)) := by
 cases o with
 | none => rfl
 | some t => cases t <;> (show dIsN (e_tree _) .non = _) <;> unfold e_tree <;> rfl
theorem isn_otree (o : Option QT) : dNotN (eO e_tree o) .non = some (.val (.bl (!o.isNone))) := by
 cases o with
 | none => rfl
 | some t => cases t <;> (show dNotN (e_tree _) .non = _) <;> unfold e_tree <;> rfl
theorem ne_lt0 (a : List (List Int)) : dNe (.lst (a.map fun x => .tup (x.map .int))) (.lst []) = some (.val (.bl (!decide (a = [])))) := pd_int.tup.lst.ne (by decide) a []
theorem eq_ll0 (a : List (List Int)) : dNe (.lst (a.map fun x => .lst (x.map .int))) (.lst []) = some (.val (.bl (!decide (a = [])))) := pd_int.lst.lst.ne (by decide) a []
theorem int_o (o : Option Int) : gInt [eO D.int o] = o.bind fun i => some (.val (.int i)) := by cases o <;> rfl
theorem ge_oi (i : Int) (o : Option Int) : dGe (eO D.int o) (.int i) = o.bind fun j => some (.val (.bl (decide (i ≤ j)))) := by cases o <;> rfl
theorem le_oi (i : Int) (o : Option Int) : dLe (eO D.int o) (.int i) = o.bind fun j => some (.val (.bl (decide (j ≤ i)))) := by cases o <;> rfl
theorem lpO_E {E : Type} (st : E → List S) (rv : Empty → Rv) (rs : Empty → List S) (o : Cf E Empty) : (some (lpO st rv rs o) : Option Os) = o.k (fun e => some (.nx (st e))) (fun _ => none) := by
 cases o with
 | rt r => exact nomatch r
 | _ => rfl
end Tl
namespace Tl
open PySem Dl
open L2 (ixN atI)
abbrev K2 := Dn.K2
def lkT2 {β : Type} (m : List (K2 × β)) (k : K2) : Option β := (m.find? fun p => decide (p.1 = k)).map (·.2)
def hasT2 {β : Type} (m : List (K2 × β)) (k : K2) : Bool := (lkT2 m k).isSome
def putT2 {β : Type} (m : List (K2 × β)) (k : K2) (v : β) : List (K2 × β) := if hasT2 m k = true then m.map (fun p => if p.1 = k then (p.1, v) else p) else m ++ [(k, v)]
section
variable {β : Type} (e : β → D)
theorem lkN_T : ∀ (m : List (K2 × β)) (k : K2), lkN (List.map (fun x => keyD x.1) m) (List.map (fun x => e x.2) m) k = (lkT2 m k).bind fun v => some (e v)
 | [], k => rfl
 | p :: m, k => by
  show (if keyO (keyD p.1) = some k then some (e p.2) else lkN (List.map (fun x => keyD x.1) m) (List.map (fun x => e x.2) m) k) = _
  rw [keyO_keyD]
  by_cases q : p.1 = k
  · have b : lkT2 (p :: m) k = some p.2 := by simp [lkT2, List.find?_cons, q]
    rw [if_pos (by rw [q]), b]; rfl
  · have b : lkT2 (p :: m) k = lkT2 m k := by simp [lkT2, List.find?_cons, q]
    rw [if_neg (fun z => q (Option.some.inj z)), b]
    exact lkN_T m k
theorem lkN_T_some (m : List (K2 × β)) (k : K2) : (lkN (List.map (fun x => keyD x.1) m) (List.map (fun x => e x.2) m) k).isSome = hasT2 m k := by
 rw [lkN_T]; unfold hasT2; cases lkT2 m k <;> rfl
theorem inN_T (m : List (K2 × β)) (k : K2) : dInN (D.tup (List.map (fun x => D.tup (List.map D.int x)) k)) (.ndi (List.map (fun x => D.tup (List.map (fun x => D.tup (List.map D.int x)) x.1)) m) (List.map (fun x => e x.2) m)) = some (.val (.bl (hasT2 m k))) := by
 show dInN (keyD k) (.ndi (List.map (fun x => keyD x.1) m) _) = _
 unfold dInN
 rw [keyO_keyD]
 dsimp only
 rw [lkN_T_some]
theorem getN_T (m : List (K2 × β)) (k : K2) : dGetN (.ndi (List.map (fun x => D.tup (List.map (fun x => D.tup (List.map D.int x)) x.1)) m) (List.map (fun x => e x.2) m)) (D.tup (List.map (fun x => D.tup (List.map D.int x)) k)) = (lkT2 m k).bind fun v => some (e v) := by
 show dGetN (.ndi (List.map (fun x => keyD x.1) m) _) (keyD k) = _
 unfold dGetN
 rw [keyO_keyD]
 exact lkN_T e m k
theorem replV_T (k : K2) (v : β) : ∀ m : List (K2 × β), replV (List.map (fun x => keyD x.1) m) (List.map (fun x => e x.2) m) k (e v) = (m.map fun p => if p.1 = k then (p.1, v) else p).map (fun x => e x.2)
 | [] => rfl
 | p :: m => by
  show (if keyO (keyD p.1) = some k then e v else e p.2) :: replV (List.map (fun x => keyD x.1) m) (List.map (fun x => e x.2) m) k (e v) = _
  rw [keyO_keyD, replV_T k v m, List.map_cons, List.map_cons]
  by_cases q : p.1 = k
  · rw [if_pos (by rw [q]), if_pos q]
  · rw [if_neg (fun z => q (Option.some.inj z)), if_neg q]
theorem replK_T (k : K2) (v : β) : ∀ m : List (K2 × β), (m.map fun p => if p.1 = k then (p.1, v) else p).map (fun x => keyD x.1) = m.map fun x => keyD x.1
 | [] => rfl
 | p :: m => by
  rw [List.map_cons, List.map_cons, List.map_cons, replK_T k v m]
  by_cases q : p.1 = k
  · rw [if_pos q]
  · rw [if_neg q]
theorem putN_T (m : List (K2 × β)) (k : K2) (v : β) : D.ndi (putKs (List.map (fun x => D.tup (List.map (fun x => D.tup (List.map D.int x)) x.1)) m) (List.map (fun x => e x.2) m) k) (putVs (List.map (fun x => D.tup (List.map (fun x => D.tup (List.map D.int x)) x.1)) m) (List.map (fun x => e x.2) m) k (e v)) =
  .ndi (List.map (fun x => D.tup (List.map (fun x => D.tup (List.map D.int x)) x.1)) (putT2 m k v)) (List.map (fun x => e x.2) (putT2 m k v)) := by
 show D.ndi (putKs (List.map (fun x => keyD x.1) m) _ k) (putVs (List.map (fun x => keyD x.1) m) _ k (e v)) = .ndi (List.map (fun x => keyD x.1) (putT2 m k v)) _
 unfold putKs putVs putT2
 rw [lkN_T_some]
 by_cases q : hasT2 m k = true
 · rw [if_pos q, if_pos q, if_pos q, replK_T, replV_T]
 · rw [if_neg q, if_neg q, if_neg q, List.map_append, List.map_append]; rfl
end
theorem keyO_T (k : K2) : keyO (D.tup (List.map (fun x => D.tup (List.map D.int x)) k)) = some k := keyO_keyD k
abbrev Fnd := Option Int × Option Int
theorem inN_f (m : List (K2 × Fnd)) (k : K2) : dInN (D.tup (List.map (fun x => D.tup (List.map D.int x)) k)) (.ndi (List.map (fun x => D.tup (List.map (fun x => D.tup (List.map D.int x)) x.1)) m) (List.map (fun x => D.tup [eO D.int x.2.1, eO D.int x.2.2]) m)) = some (.val (.bl (hasT2 m k))) := inN_T (fun p : Fnd => D.tup [eO D.int p.1, eO D.int p.2]) m k
theorem getN_f (m : List (K2 × Fnd)) (k : K2) : dGetN (.ndi (List.map (fun x => D.tup (List.map (fun x => D.tup (List.map D.int x)) x.1)) m) (List.map (fun x => D.tup [eO D.int x.2.1, eO D.int x.2.2]) m)) (D.tup (List.map (fun x => D.tup (List.map D.int x)) k)) = (lkT2 m k).bind fun v => some (D.tup [eO D.int v.1, eO D.int v.2]) := getN_T (fun p : Fnd => D.tup [eO D.int p.1, eO D.int p.2]) m k
theorem putN_f (m : List (K2 × Fnd)) (k : K2) (a b : Option Int) : D.ndi (putKs (List.map (fun x => D.tup (List.map (fun x => D.tup (List.map D.int x)) x.1)) m) (List.map (fun x => D.tup [eO D.int x.2.1, eO D.int x.2.2]) m) k) (putVs (List.map (fun x => D.tup (List.map (fun x => D.tup (List.map D.int x)) x.1)) m) (List.map (fun x => D.tup [eO D.int x.2.1, eO D.int x.2.2]) m) k (D.tup [eO D.int a, eO D.int b])) =
  .ndi (List.map (fun x => D.tup (List.map (fun x => D.tup (List.map D.int x)) x.1)) (putT2 m k (a, b))) (List.map (fun x => D.tup [eO D.int x.2.1, eO D.int x.2.2]) (putT2 m k (a, b))) := putN_T (fun p : Fnd => D.tup [eO D.int p.1, eO D.int p.2]) m k (a, b)
section
variable {γ : Type} {ρ : List S} {kx : Xn → List S → Option γ} {fa fb fo : M Rv}
theorem cps_dicN (k : Rv → List S → Option γ) : cps eDicN ρ kx k = k (.own (.ndi [] [])) ρ := by
 unfold eDicN; simp only [cps_pure]
theorem cps_getN (k : Rv → List S → Option γ) : cps (eGetN fa fb) ρ kx k = cps fa ρ kx fun x ρ1 => cps fb ρ1 kx fun y ρ2 => cps (peek (Dl.settle x)) ρ2 kx fun d ρ3 => cps (peek y) ρ3 kx fun e ρ4 => (dGetN d e).bind fun z => k (.val z) ρ4 := by
 unfold eGetN; simp only [cps_bind, cps_ofO, cps_pure]
theorem eInN_eq : eInN fa fb = mBin dInN fa fb := rfl
def ownNK (i : Nat) : Option S → Option (Nat × List D × List D)
 | some (.own (.ndi ks vs)) => some (i, ks, vs)
 | _ => none
theorem ownNdi_a (i : Nat) (ρ : List S) : ownNdi (.ali i) ρ = ownNK i ρ[i]? := by
 unfold ownNdi ownNK
 dsimp only
 all_goals cases ρ[i]? with
 | none => rfl
 | some s => cases s with
  | no => rfl
  | val d => rfl
  | own d => cases d <;> rfl
theorem ownNK_n (i : Nat) (ks vs : List D) : ownNK i (some (.own (.ndi ks vs))) = some (i, ks, vs) := rfl
theorem sSetN_eq : sSetN fa fo fb ρ = cps fa ρ (fun e ρ => some (.ex e ρ)) fun x ρ => cps (toV x) ρ (fun e ρ => some (.ex e ρ)) fun d ρ => cps fo ρ (fun e ρ => some (.ex e ρ)) fun r ρ => cps fb ρ (fun e ρ => some (.ex e ρ)) fun j ρ => cps (peek (Dl.settle j)) ρ (fun e ρ => some (.ex e ρ)) fun e ρ =>
  (ownNdi (Dl.settle r) ρ).bind fun p => (keyO e).bind fun k => (gz (p.2.2.length + 1)).bind fun _ => some (.nx (ρ.set p.1 (.own (.ndi (putKs p.2.1 p.2.2 k) (putVs p.2.1 p.2.2 k d))))) := by
 unfold sSetN
 rw [thenS_eq]; congr 1; funext x ρ
 rw [thenS_eq]; congr 1; funext d ρ
 rw [thenS_eq]; congr 1; funext r ρ
 rw [thenS_eq]; congr 1; funext j ρ
 rw [thenS_eq]; congr 1; funext e ρ
 cases ownNdi (Dl.settle r) ρ with
 | none => rfl
 | some p =>
  cases keyO e with
  | none => rfl
  | some k =>
   show (if p.2.2.length < sizeLine then _ else none) = (gz (p.2.2.length + 1)).bind _
   unfold gz
   by_cases q : p.2.2.length < sizeLine
   · rw [if_pos q, if_pos (by omega)]; rfl
   · rw [if_neg q, if_neg (by omega)]; rfl
end
section
variable {γ : Type} {ρ : List S} {kx : Xn → List S → Option γ} {fa : M Rv} {la : M (List Rv)} {lt : M (List Rv × List D × List D)}
theorem l1N_o (ks vs : List D) : lstOf1N (.own (.ndi ks vs)) = some (ks, vs) := rfl
theorem cps_aTmpRN (k : (List Rv × List D × List D) → List S → Option γ) (rs : List Rv) (ds : List D × List D) : cps (aTmpRN rs ds) ρ kx k = k (.ali ρ.length :: rs, ds) ρ := rfl
theorem cps_aTmpN (k : (List Rv × List D × List D) → List S → Option γ) : cps (aTmpN fa la) ρ kx k = cps fa ρ kx fun r ρ1 => (lstOf1N r).bind fun ds => cps la ρ1 kx fun rs ρ2 => k (.ali ρ2.length :: rs, ds) ρ2 := by
 unfold aTmpN; simp only [cps_bind, cps_ofO, cps_aTmpRN]
theorem cps_aConsTN (k : (List Rv × List D × List D) → List S → Option γ) : cps (aConsTN fa lt) ρ kx k = cps fa ρ kx fun r ρ1 => cps lt ρ1 kx fun p ρ2 => k (Dl.settle r :: p.1, p.2) ρ2 := by
 unfold aConsTN; simp only [cps_bind, cps_pure]
theorem cps_callTN (mu : List Bool) (fn : Fn) (p : List Rv × List D × List D) (k : Rv → List S → Option γ) : cps (callTN mu fn p) ρ kx k = cps (callM mu fn p.1) (ρ ++ [.own (.ndi p.2.1 p.2.2)]) (fun e ρ' => kx e (ρ'.take ρ.length)) fun r ρ' => tkK r fun r => k r (ρ'.take ρ.length) := by
 unfold callTN cps
 dsimp only
 cases callM mu fn p.1 (ρ ++ [.own (.ndi p.2.1 p.2.2)]) with
 | none => rfl
 | some o =>
  cases o with
  | ex e ρ' => rfl
  | ok r ρ' => cases r <;> rfl
theorem cps_eCallTN (mu : List Bool) (fn : Fn) (k : Rv → List S → Option γ) : cps (eCallTN mu fn lt) ρ kx k = cps lt ρ kx fun p ρ1 => cps (callTN mu fn p) ρ1 kx k := by
 unfold eCallTN; simp only [cps_bind]
end
end Tl
namespace Tl
open PySem Dl
open L2 (ixN atI)
theorem inN_i (m : List (K2 × Int)) (k : K2) : dInN (D.tup (List.map (fun x => D.tup (List.map D.int x)) k)) (.ndi (List.map (fun x => D.tup (List.map (fun x => D.tup (List.map D.int x)) x.1)) m) (List.map (fun x => D.int x.2) m)) = some (.val (.bl (hasT2 m k))) := inN_T D.int m k
theorem getN_i (m : List (K2 × Int)) (k : K2) : dGetN (.ndi (List.map (fun x => D.tup (List.map (fun x => D.tup (List.map D.int x)) x.1)) m) (List.map (fun x => D.int x.2) m)) (D.tup (List.map (fun x => D.tup (List.map D.int x)) k)) = (lkT2 m k).bind fun v => some (D.int v) := getN_T D.int m k
theorem putN_i (m : List (K2 × Int)) (k : K2) (a : Int) : D.ndi (putKs (List.map (fun x => D.tup (List.map (fun x => D.tup (List.map D.int x)) x.1)) m) (List.map (fun x => D.int x.2) m) k) (putVs (List.map (fun x => D.tup (List.map (fun x => D.tup (List.map D.int x)) x.1)) m) (List.map (fun x => D.int x.2) m) k (D.int a)) =
  .ndi (List.map (fun x => D.tup (List.map (fun x => D.tup (List.map D.int x)) x.1)) (putT2 m k a)) (List.map (fun x => D.int x.2) (putT2 m k a)) := putN_T D.int m k a
end Tl
namespace Tl
open PySem Dl
open L2 (ixN atI)
section
variable {β : Type} (e : β → D)
theorem notInN_T (m : List (K2 × β)) (k : K2) : dNotInN (D.tup (List.map (fun x => D.tup (List.map D.int x)) k)) (.ndi (List.map (fun x => D.tup (List.map (fun x => D.tup (List.map D.int x)) x.1)) m) (List.map (fun x => e x.2) m)) = some (.val (.bl (!hasT2 m k))) := by
 have h := inN_T e m k
 unfold dInN at h
 unfold dNotInN
 rw [keyO_T] at h ⊢
 dsimp only at h ⊢
 have h2 := Option.some.inj h
 injection h2 with h3
 injection h3 with h4
 rw [h4]
end
theorem inN_b (m : List (K2 × Bool)) (k : K2) : dInN (D.tup (List.map (fun x => D.tup (List.map D.int x)) k)) (.ndi (List.map (fun x => D.tup (List.map (fun x => D.tup (List.map D.int x)) x.1)) m) (List.map (fun x => D.bl x.2) m)) = some (.val (.bl (hasT2 m k))) := inN_T D.bl m k
theorem notInN_b (m : List (K2 × Bool)) (k : K2) : dNotInN (D.tup (List.map (fun x => D.tup (List.map D.int x)) k)) (.ndi (List.map (fun x => D.tup (List.map (fun x => D.tup (List.map D.int x)) x.1)) m) (List.map (fun x => D.bl x.2) m)) = some (.val (.bl (!hasT2 m k))) := notInN_T D.bl m k
theorem putN_b (m : List (K2 × Bool)) (k : K2) (a : Bool) : D.ndi (putKs (List.map (fun x => D.tup (List.map (fun x => D.tup (List.map D.int x)) x.1)) m) (List.map (fun x => D.bl x.2) m) k) (putVs (List.map (fun x => D.tup (List.map (fun x => D.tup (List.map D.int x)) x.1)) m) (List.map (fun x => D.bl x.2) m) k (D.bl a)) =
  .ndi (List.map (fun x => D.tup (List.map (fun x => D.tup (List.map D.int x)) x.1)) (putT2 m k a)) (List.map (fun x => D.bl x.2) (putT2 m k a)) := putN_T D.bl m k a
abbrev eK2 (x : K2) : D := D.tup (List.map (fun x => D.tup (List.map D.int x)) x)
theorem inN_k (m : List (K2 × K2)) (k : K2) : dInN (D.tup (List.map (fun x => D.tup (List.map D.int x)) k)) (.ndi (List.map (fun x => D.tup (List.map (fun x => D.tup (List.map D.int x)) x.1)) m) (List.map (fun x => D.tup (List.map (fun x => D.tup (List.map D.int x)) x.2)) m)) = some (.val (.bl (hasT2 m k))) := inN_T eK2 m k
theorem getN_k (m : List (K2 × K2)) (k : K2) : dGetN (.ndi (List.map (fun x => D.tup (List.map (fun x => D.tup (List.map D.int x)) x.1)) m) (List.map (fun x => D.tup (List.map (fun x => D.tup (List.map D.int x)) x.2)) m)) (D.tup (List.map (fun x => D.tup (List.map D.int x)) k)) = (lkT2 m k).bind fun v => some (D.tup (List.map (fun x => D.tup (List.map D.int x)) v)) := getN_T eK2 m k
section
variable {γ : Type} {ρ : List S} {kx : Xn → List S → Option γ} {fa fb : M Rv}
def dicOne (e d : D) : Option D := (keyO e).map fun k => .ndi [keyD k] [d]
theorem dicOne_b (k : K2) (b : Bool) : dicOne (D.tup (List.map (fun x => D.tup (List.map D.int x)) k)) (.bl b) = some (.ndi (List.map (fun x => D.tup (List.map (fun x => D.tup (List.map D.int x)) x.1)) [(k, b)]) (List.map (fun x => D.bl x.2) [(k, b)])) := by
 unfold dicOne; rw [keyO_T]; rfl
theorem cps_dic1 (k : Rv → List S → Option γ) : cps (eDic1 fa fb) ρ kx k = cps fa ρ kx fun r ρ1 => cps fb ρ1 kx fun q ρ2 => cps (peek (Dl.settle r)) ρ2 kx fun e ρ3 => cps (toV q) ρ3 kx fun d ρ4 => (dicOne e d).bind fun x => k (.own x) ρ4 := by
 unfold eDic1
 simp only [cps_bind]
 congr 1; funext r ρ1
 congr 1; funext q ρ2
 congr 1; funext e ρ3
 congr 1; funext d ρ4
 unfold dicOne
 cases keyO e <;> rfl
theorem eNotInN_eq : eNotInN fa fb = mBin dNotInN fa fb := rfl
end
theorem or_tt (a : Bool) : (a || true) = true := Bool.or_true a
def oRv {α : Type} (e : α → D) : Option α → Rv
 | none => .val .non
 | some a => .own (e a)
section
variable {α γ : Type} {e : α → D} {ρ : List S} {kx : Xn → List S → Option γ}
theorem oRv_n : oRv e none = .val .non := rfl
theorem oRv_s (a : α) : oRv e (some a) = .own (e a) := rfl
theorem oRv_na (v : Option α) : notAli (oRv e v) = true := by cases v <;> rfl
theorem rtn_oo (ss : List S) (v : Option α) : rtn ss (some (.rt (oRv e v) ρ)) = some (.ret (oRv e v) (post ss ρ)) := by cases v <;> rfl
theorem oRv_toV (v : Option α) (k : D → List S → Option γ) : cps (toV (oRv e v)) ρ kx k = k (eO e v) ρ := by cases v <;> rfl
end
theorem PD.prod3 {α β γ : Type} [DecidableEq α] [DecidableEq β] [DecidableEq γ] {e1 : α → D} {e2 : β → D} {e3 : γ → D} {p1 : α → PyData} {p2 : β → PyData} {p3 : γ → PyData} {n1 n2 n3 n : Nat} (h1 : PD e1 p1 n1) (h2 : PD e2 p2 n2) (h3 : PD e3 p3 n3) (l1 : n1 ≤ n) (l2 : n2 ≤ n) (l3 : n3 ≤ n) :
  PD (fun x : α × β × γ => D.tup [e1 x.1, e2 x.2.1, e3 x.2.2]) (fun x => .tuple [p1 x.1, p2 x.2.1, p3 x.2.2]) (n + 1) := ⟨fun a => by unfold toP; simp only [toPs, h1.to, h2.to, h3.to]; rfl, fun a => by unfold PyData.canLay0; simp only [PyData.canLayAll0, h1.lay, h2.lay, h3.lay]; rfl, fun a => by
 have d1 := h1.dep a.1
 have d2 := h2.dep a.2.1
 have d3 := h3.dep a.2.2
 unfold PyData.depth
 simp only [PyData.depthAll]
 omega, fun a b => by
 obtain ⟨a1, a2, a3⟩ := a
 obtain ⟨b1, b2, b3⟩ := b
 unfold PyData.eqv
 simp only [PyData.eqvAll, h1.eqv, h2.eqv, h3.eqv]
 rw [Bool.eq_iff_iff]
 simp⟩
theorem pd_row : PD (fun x : K2 × Int × K2 => D.tup [D.tup (List.map (fun x => D.tup (List.map D.int x)) x.1), D.int x.2.1, D.tup (List.map (fun x => D.tup (List.map D.int x)) x.2.2)]) (fun x => .tuple [.tuple (x.1.map fun x => .tuple (x.map .int)), .int x.2.1, .tuple (x.2.2.map fun x => .tuple (x.map .int))]) 3 :=
 PD.prod3 (pd_int.tup).tup pd_int (pd_int.tup).tup (by decide) (by decide) (by decide)
theorem is_ol {α : Type} (e : α → D) (v : Option (List α)) : dIsN (eO (fun x => D.lst (List.map e x)) v) .non = some (.val (.bl v.isNone)) := by cases v <;> rfl
theorem isn_ol {α : Type} (e : α → D) (v : Option (List α)) : dNotN (eO (fun x => D.lst (List.map e x)) v) .non = some (.val (.bl (!v.isNone))) := by cases v <;> rfl
theorem eq_rn (a : Option (List (K2 × Int × K2))) : dEq (eO (fun x => D.lst (List.map (fun x : K2 × Int × K2 => D.tup [D.tup (List.map (fun x => D.tup (List.map D.int x)) x.1), D.int x.2.1, D.tup (List.map (fun x => D.tup (List.map D.int x)) x.2.2)]) x)) a) (D.lst []) = some (.val (.bl (decide (a = some [])))) := (pd_row.lst).eqO nn_lst (by decide) a []
end Tl
namespace Tl
open PySem Dl
open L2 (ixN atI)
section
variable {γ : Type} {ρ : List S} {kx : Xn → List S → Option γ} {it : M (List D)} {tg : D → List S → Option (List S)} {fk fv : M Rv} {vs : List Nat}
variable {α β : Type} {e : α → D} {ev : β → D}
theorem cps_eDcN (k : Rv → List S → Option γ) : cps (eDcN it tg fk fv vs) ρ kx k = cps it ρ kx fun ds ρ1 => if noOwn ρ1 vs = true then cps (dcL tg fk fv vs ds ([], [])) ρ1 kx fun acc ρ2 => k (.own (.ndi acc.1 acc.2)) ρ2 else none := by
 unfold eDcN
 refine (cps_bind _ _ k).trans ?_
 congr 1; funext ds ρ1
 refine (cps_bind _ _ k).trans ?_
 rw [cps_no]
 rfl
end
theorem eq_l0t (a : List (List Int)) : dEq (.lst (List.map (fun x => D.tup (List.map D.int x)) a)) (.lst []) = some (.val (.bl (decide (a = [])))) := pd_int.tup.lst.eq (by decide) a []
theorem ne_l0t (a : List (List Int)) : dNe (.lst (List.map (fun x => D.tup (List.map D.int x)) a)) (.lst []) = some (.val (.bl (!decide (a = [])))) := pd_int.tup.lst.ne (by decide) a []
end Tl
namespace Tl
open PySem Dl
open L2 (ixN atI)
section
variable {γ : Type} {la : M (List Rv)} {ρ : List S} {kx : Xn → List S → Option γ}
theorem cps_eCallD (mu : List Bool) (fn : Fn) (ns : List Int) (k : Rv → List S → Option γ) : cps (eCallD mu fn ns la) ρ kx k = cps la ρ kx fun rs ρ1 => cps (callM mu fn (rs ++ ns.map fun n => Rv.val (.int n))) ρ1 kx k := by
 unfold eCallD; simp only [cps_bind]
end
theorem gt_oo (a b : Option Int) : dGt (eO D.int a) (eO D.int b) = a.bind fun i => b.bind fun j => some (.val (.bl (decide (j < i)))) := by cases a <;> cases b <;> rfl
theorem unO_i (i : Int) : unO (.val (.int i)) = some (.int i) := rfl
end Tl
namespace Tl
open PySem Dl
open L2 (ixN atI)
def QT.len : QT → Int
 | .fin _ => 2
 | .ask _ _ => 3
theorem ty_tree (t : QT) : tyNm (e_tree t) = some "tuple" := by
 cases t with
 | fin n => rw [e_tree_fin]; rfl
 | ask p bs => rw [e_tree_a]; rfl
theorem glen_tree (t : QT) : gLen [e_tree t] = some (.val (.int (QT.len t))) := by
 cases t with
 | fin n => rw [e_tree_fin]; rfl
 | ask p bs => rw [e_tree_a]; rfl
theorem eq_ll0g (a : List (List Int)) : dEq (.lst (a.map fun x => D.lst (x.map D.int))) (.lst []) = some (.val (.bl (decide (a = [])))) := pd_int.lst.lst.eq (by decide) a []
theorem or_f0 (b : Bool) : (b || false) = b := Bool.or_false b
theorem cast_2 : ((2 : Nat) : Int) = 2 := rfl
theorem cast_3 : ((3 : Nat) : Int) = 3 := rfl
end Tl
namespace Tl
open PySem Dl
open L2 (ixN atI)
def popT {α : Type} (xs : List α) (n : Int) : Option (α × List α) := if 0 ≤ n ∧ n < 2 ^ 62 then (xs[n.toNat]?).bind fun a => some (a, xs.eraseIdx n.toNat) else none
def insT {α : Type} (xs : List α) (n : Int) (a : α) : List α := xs.take n.toNat ++ [a] ++ xs.drop n.toNat
def idxT (xs : List Int) (y : Int) : Option Int := (xs.findIdx? fun z => z == y).bind fun j => some ((j : Nat) : Int)
def intD : D → Option Int
 | .int n => some n
 | _ => none
theorem intD_i (n : Int) : intD (.int n) = some n := rfl
theorem eraseIdx_mapD {α β : Type} (f : α → β) : ∀ (xs : List α) (i : Nat), (xs.map f).eraseIdx i = (xs.eraseIdx i).map f
 | [], i => by simp
 | x :: xs, 0 => rfl
 | x :: xs, i + 1 => by
  show f x :: (xs.map f).eraseIdx i = f x :: (xs.eraseIdx i).map f
  rw [eraseIdx_mapD f xs i]
theorem popT_map {α β : Type} (f : α → β) (xs : List α) (n : Int) : popT (xs.map f) n = (popT xs n).bind fun r => some (f r.1, r.2.map f) := by
 unfold popT
 split
 · rw [List.getElem?_map]
   cases xs[n.toNat]? with
   | none => rfl
   | some a => dsimp only [Option.map, Option.bind]; rw [eraseIdx_mapD]
 · rfl
theorem insT_map {α β : Type} (f : α → β) (xs : List α) (n : Int) (a : α) : List.map f (insT xs n a) = insT (List.map f xs) n (f a) := by
 unfold insT
 rw [List.map_append, List.map_append, List.map_take, List.map_drop]; rfl
theorem index_i (xs : List Int) (y : Int) : gIndex (.lst (xs.map D.int)) (.int y) = (idxT xs y).bind fun j => some (.val (.int j)) := by
 unfold gIndex idxT
 dsimp only
 have h1 : (xs.map D.int).all flD = true := List.all_eq_true.mpr fun d hd => by
  obtain ⟨x, _, rfl⟩ := List.mem_map.mp hd
  rfl
 rw [if_pos ⟨h1, rfl⟩, List.findIdx?_map]
 show (xs.findIdx? fun z => z == y).map _ = _
 cases xs.findIdx? fun z => z == y <;> rfl
theorem isLst_l (xs : List D) : isLst (.lst xs) = true := rfl
theorem in_ll (r : List Int) (rs : List (List Int)) : dIn2 (.lst (r.map D.int)) (.lst (rs.map fun r => D.lst (r.map D.int))) = some (.val (.bl (decide (r ∈ rs)))) := (pd_int.lst.inL (by decide) (fun _ => rfl) r rs).trans (by congr)
theorem notIn_ll (r : List Int) (rs : List (List Int)) : dNotIn2 (.lst (r.map D.int)) (.lst (rs.map fun r => D.lst (r.map D.int))) = some (.val (.bl (!decide (r ∈ rs)))) := (pd_int.lst.notInL (by decide) (fun _ => rfl) r rs).trans (by congr)
section
variable {γ : Type} {ρ : List S} {kx : Xn → List S → Option γ} {fa fb : M Rv} {la : M (List Rv)}
theorem cps_ckL (r : Rv) (h : Unit → List S → Option γ) : cps (ckL r) ρ kx h = (ownLst r ρ).bind fun _ => h () ρ := by
 unfold cps ckL; cases ownLst r ρ <;> rfl
theorem cps_popAt (k : Rv → List S → Option γ) : cps (mPopAt fa fb) ρ kx k = cps fa ρ kx fun r ρ1 => (ownLst (Dl.settle r) ρ1).bind fun _ => cps fb ρ1 kx fun x ρ2 => cps (peek (Dl.settle x)) ρ2 kx fun d ρ3 => (ownLst (Dl.settle r) ρ3).bind fun p => (intD d).bind fun n => (popT p.2 n).bind fun q => k (.val q.1) (ρ3.set p.1 (.own (.lst q.2))) := by
 unfold mPopAt; refine (cps_bind _ _ k).trans ?_
 congr 1; funext r ρ1
 refine (cps_bind _ _ k).trans ?_
 rw [cps_ckL]
 congr 1; funext _
 refine (cps_bind _ _ k).trans ?_
 congr 1; funext x ρ2
 refine (cps_bind _ _ k).trans ?_
 congr 1; funext d ρ3
 unfold cps
 dsimp only
 cases ownLst (Dl.settle r) ρ3 with
 | none => rfl
 | some p =>
  obtain ⟨i, ds⟩ := p
  dsimp only [Option.bind]
  unfold popAtD
  cases d with
  | int n =>
   dsimp only [intD]
   unfold popT
   by_cases h : 0 ≤ n ∧ n < 2 ^ 62
   · rw [if_pos h, if_pos h]
     cases ds[n.toNat]? <;> rfl
   · rw [if_neg h, if_neg h]
  | _ => rfl
theorem cps_insK (r x y : Rv) (k : Rv → List S → Option γ) : cps (insK r x y) ρ kx k = cps (peek (Dl.settle x)) ρ kx fun d ρ1 => cps (toV (Dl.settle y)) ρ1 kx fun e ρ2 => (ownLst (Dl.settle r) ρ2).bind fun p => (intD d).bind fun n => (gb (decide (0 ≤ n ∧ n < 2 ^ 62))).bind fun _ => (gz (p.2.length + 1)).bind fun _ => k (.val .non) (ρ2.set p.1 (.own (.lst (insT p.2 n e)))) := by
 unfold insK; refine (cps_bind _ _ k).trans ?_
 congr 1; funext d ρ1
 refine (cps_bind _ _ k).trans ?_
 congr 1; funext e ρ2
 unfold cps
 dsimp only
 cases ownLst (Dl.settle r) ρ2 with
 | none => rfl
 | some p =>
  obtain ⟨i, ds⟩ := p
  dsimp only [Option.bind]
  unfold insD
  cases d with
  | int n =>
   dsimp only [intD]
   unfold gb gz insT
   by_cases h : 0 ≤ n ∧ n < 2 ^ 62
   · by_cases h2 : ds.length < sizeLine
     · rw [if_pos ⟨h.1, h.2, h2⟩, if_pos (decide_eq_true h), if_pos (by omega)]
     · rw [if_neg (fun z => h2 z.2.2), if_pos (decide_eq_true h), if_neg (by omega)]
   · rw [if_neg (fun z => h ⟨z.1, z.2.1⟩), if_neg (fun z => h (of_decide_eq_true z))]
  | _ => rfl
theorem cps_insA (r x y : Rv) (k : Rv → List S → Option γ) : cps (insA r [x, y]) ρ kx k = cps (insK r x y) ρ kx k := rfl
theorem cps_insert (k : Rv → List S → Option γ) : cps (mInsert fa la) ρ kx k = cps fa ρ kx fun r ρ1 => (ownLst (Dl.settle r) ρ1).bind fun _ => cps la ρ1 kx fun xs ρ2 => cps (insA r xs) ρ2 kx k := by
 unfold mInsert; refine (cps_bind _ _ k).trans ?_
 congr 1; funext r ρ1
 refine (cps_bind _ _ k).trans ?_
 rw [cps_ckL]
 congr 1; funext _
 exact cps_bind _ _ k
theorem cps_ckLv (r : Rv) (k : Unit → List S → Option γ) : cps (ckLv r) ρ kx k = cps (peek r) ρ kx fun d ρ1 => (gb (isLst d)).bind fun _ => k () ρ1 := by
 unfold ckLv; refine (cps_bind _ _ k).trans ?_
 congr 1; funext d ρ1
 cases isLst d <;> rfl
theorem cps_index (k : Rv → List S → Option γ) : cps (mIndex fa fb) ρ kx k = cps fa ρ kx fun r ρ1 => cps (ckLv (Dl.settle r)) ρ1 kx fun _ ρ2 => cps fb ρ2 kx fun x ρ3 => cps (peek (Dl.settle x)) ρ3 kx fun e ρ4 => cps (peek (Dl.settle r)) ρ4 kx fun d ρ5 => (gIndex d e).bind fun q => k q ρ5 := by
 unfold mIndex; simp only [cps_bind, cps_ofO]
theorem le_oo (o p : Option Int) : dLe (eO D.int o) (eO D.int p) = o.bind fun i => p.bind fun j => some (.val (.bl (decide (i ≤ j)))) := by cases o <;> cases p <;> rfl
end
end Tl
namespace Tl
open PySem Dl
open L2 (ixN atI)
section
variable {γ : Type} {la lk : M (List Rv)} {fa : M Rv} {ρ : List S} {kx : Xn → List S → Option γ}
theorem cps_prop (n : Str) (mu : List Bool) (fn : Fn) (k : Rv → List S → Option γ) : cps (eProp n mu fn fa) ρ kx k = cps fa ρ kx fun r ρ1 => cps (ckC n (Dl.settle r)) ρ1 kx fun _ ρ2 => cps (callM mu (nx fn) [Dl.settle r]) ρ2 kx k := by
 unfold eProp; simp only [cps_bind]
theorem nx_eq (fn : Fn) (ss : List S) : nx fn ss = (fn ss).bind nxO := rfl
theorem nxO_ret (r : Rv) (ss : List S) : nxO (.ret r ss) = some (.ret r ss) := rfl
theorem cps_eMakeK (x : Str) (n m : Nat) (pl : Pl) (mu : List Bool) (fn : Fn) (k : Rv → List S → Option γ) : cps (eMakeK x n m pl mu fn la lk) ρ kx k = cps la ρ kx fun rs ρ1 => cps lk ρ1 kx fun zs ρ2 => if rs.length = n ∧ zs.length = m then cps (makeM x mu fn (rs ++ fillR pl zs)) ρ2 kx k else none := by
 unfold eMakeK; simp only [cps_bind, cps_ite, cps_fail]
theorem fillR_n (zs : List Rv) : fillR [] zs = [] := rfl
theorem fillR_d (n : Int) (pl : Pl) (zs : List Rv) : fillR (.inr n :: pl) zs = .val (.int n) :: fillR pl zs := rfl
theorem fillR_0 (pl : Pl) (z : Rv) (zs : List Rv) : fillR (.inl 0 :: pl) (z :: zs) = z :: fillR pl (z :: zs) := rfl
theorem fillR_1 (pl : Pl) (y z : Rv) (zs : List Rv) : fillR (.inl 1 :: pl) (y :: z :: zs) = z :: fillR pl (y :: z :: zs) := rfl
theorem sAugF_eq (cs : Flds) (f : Str) (h : Int → Int) : sAugF cs f h fa ρ = cps fa ρ (fun e ρ => some (.ex e ρ)) fun r ρ =>
  (ownObj (Dl.settle r) ρ).bind fun p => if p.2.1 ∈ cs ∧ p.2.2.1.length < 1000 then (intOf (lkF f p.2.2.1 p.2.2.2)).bind fun k => some (.nx (ρ.set p.1 (.own (.obj p.2.1 (putF2 f (.int (h k)) p.2.2.1 p.2.2.2).1 (putF2 f (.int (h k)) p.2.2.1 p.2.2.2).2)))) else none := by
 unfold sAugF
 rw [thenS_eq]; congr 1; funext r ρ
 cases ownObj (Dl.settle r) ρ with
 | none => rfl
 | some p =>
  show (if p.2.1 ∈ cs ∧ p.2.2.1.length < 1000 then _ else none) = if p.2.1 ∈ cs ∧ p.2.2.1.length < 1000 then _ else none
  by_cases h1 : p.2.1 ∈ cs ∧ p.2.2.1.length < 1000
  · rw [if_pos h1, if_pos h1]
    cases intOf (lkF f p.2.2.1 p.2.2.2) <;> rfl
  · rw [if_neg h1, if_neg h1]
theorem intOf_i (k : Int) : intOf (some (.int k)) = some k := rfl
end
theorem le_io (i : Int) (o : Option Int) : dLe (.int i) (eO D.int o) = o.bind fun j => some (.val (.bl (decide (i ≤ j)))) := by cases o <;> rfl
theorem ge_io (i : Int) (o : Option Int) : dGe (.int i) (eO D.int o) = o.bind fun j => some (.val (.bl (decide (j ≤ i)))) := by cases o <;> rfl
end Tl
namespace Tl
open PySem Dl
open L2 (ixN atI)
section
variable {ρ : List S}
theorem sRaise_eq (C : Str) : sRaise C ρ = some (.ex ⟨C, [], []⟩ ρ) := rfl
def suH (C : Str) (B : Bool) (i : Nat) (ks : List Nat) : Xn → List S → Option Os := fun e ρ => if e.c = C ∧ e.ns = [] ∧ i < ρ.length then some (.rt (.val (.bl B)) (kil ks ρ)) else none
def hit1 (C : Str) : Str → Option Bool := fun c => if c = C then some true else none
def tryQ (hit : Str → Option Bool) (su : Xn → List S → Option Os) (o : Option Os) : Option Os := o.bind fun o => match o with
 | .ex e ρ1 => (match hit e.c with
  | some true => su e ρ1
  | some false => some (.ex e ρ1)
  | none => none)
 | o => some o
theorem sTry_eq (hit : Str → Option Bool) (body : MS) (su : Xn → List S → Option Os) : sTry hit body su ρ = tryQ hit su (body ρ) := by
 unfold sTry tryQ
 cases body ρ with
 | none => rfl
 | some o => cases o <;> rfl
theorem tryQ_bind {α : Type} (hit : Str → Option Bool) (su : Xn → List S → Option Os) (o : Option α) (h : α → Option Os) : tryQ hit su (o.bind h) = o.bind fun a => tryQ hit su (h a) := by cases o <;> rfl
theorem tryQ_ite (hit : Str → Option Bool) (su : Xn → List S → Option Os) (c : Prop) [Decidable c] (a b : Option Os) : tryQ hit su (if c then a else b) = if c then tryQ hit su a else tryQ hit su b := by split <;> rfl
theorem tryQ_none (hit : Str → Option Bool) (su : Xn → List S → Option Os) : tryQ hit su none = none := rfl
theorem tryQ_ex (C : Str) (su : Xn → List S → Option Os) : tryQ (hit1 C) su (some (.ex ⟨C, [], []⟩ ρ)) = su ⟨C, [], []⟩ ρ := by
 show (match hit1 C C with
  | some true => su ⟨C, [], []⟩ ρ
  | some false => some (.ex ⟨C, [], []⟩ ρ)
  | none => none) = _
 unfold hit1
 rw [if_pos rfl]
theorem suH_eq (C : Str) (B : Bool) (i : Nat) (ks : List Nat) : suH C B i ks ⟨C, [], []⟩ ρ = if i < ρ.length then some (.rt (.val (.bl B)) (kil ks ρ)) else none := by
 unfold suH
 by_cases h : i < ρ.length
 · rw [if_pos ⟨rfl, rfl, h⟩, if_pos h]
 · rw [if_neg (fun z => h z.2.2), if_neg h]
end
def DHelp (P : Program) (w : World) (K : PySem.W.Frag) (mg : Str → Option Value) (base : Heap) (x : Str) (k : Nat) (C : Str) (B : Bool) : Prop :=
 ∃ fnA : Addr → Fn, (∀ a, fnA a [.val (.loc a)] = some (.ret (.val (.bl B)) [.val (.loc a)])) ∧ DFP P w K mg base x k 1 C fnA
theorem DHelp.up {P : Program} {w : World} {K : PySem.W.Frag} {mg : Str → Option Value} {base : Heap} {x C : Str} {j k : Nat} {B : Bool} (F : DHelp P w K mg base x j C B) (h : j ≤ k) : DHelp P w K mg base x k C B :=
 let ⟨fnA, h1, h2⟩ := F; ⟨fnA, h1, h2.up h⟩
section
open L2 PyProof.Rows
variable {X : Cx} {W : WX} {np i k : Nat} {x n hp : Str} {pos pos' p p2 p3 p4 p5 : Pos} {body : List Stmt} {fb : MS} {B : Bool} {ks : List Nat}
end
end Tl
namespace Tl
open PySem Dl
open L2 (ixN atI)
inductive IB where
 | i (n : Int) | b (x : Bool)
def e_ib : IB → D
 | .i n => .int n
 | .b x => .bl x
def ibN : IB → Int
 | .i n => n
 | .b x => if x then 1 else 0
def ibI : IB → Option Int
 | .i n => some n
 | .b _ => none
theorem e_ib_i (n : Int) : e_ib (.i n) = .int n := rfl
theorem e_ib_b (x : Bool) : e_ib (.b x) = .bl x := rfl
theorem any_ib (v : IB) (ns : List Int) : ((ns.map D.int).any fun z => feq z (e_ib v)) = decide (ibN v ∈ ns) := by
 induction ns with
 | nil => rfl
 | cons n ns ih =>
  rw [List.map_cons, List.any_cons, ih]
  have h : feq (.int n) (e_ib v) = decide (ibN v = n) := by
   cases v with
   | i m =>
    show (n == m) = decide (m = n)
    by_cases h : m = n
    · subst h; simp
    · have h2 : ¬ n = m := fun z => h z.symm
      simp [h, h2]
   | b x =>
    show (n == (if x then 1 else 0)) = decide ((if x then (1 : Int) else 0) = n)
    by_cases h : (if x then (1 : Int) else 0) = n
    · rw [h]; simp
    · have h2 : ¬ n = (if x then (1 : Int) else 0) := fun z => h z.symm
      simp [h, h2]
  rw [h]
  by_cases a : ibN v = n <;> by_cases c : ibN v ∈ ns <;> simp [a, c]
theorem flD_ib (v : IB) : flD (e_ib v) = true := by cases v <;> rfl
theorem all_fl (ns : List Int) : (ns.map D.int).all flD = true := by
 rw [List.all_map]
 exact List.all_eq_true.mpr fun _ _ => rfl
theorem dIn_ib (v : IB) (ns : List Int) : dIn (e_ib v) (.tup (ns.map D.int)) = some (.val (.bl (decide (ibN v ∈ ns)))) := by
 unfold dIn dInB
 show Option.map _ (if (flD (e_ib v) && (ns.map D.int).all flD) = true then some ((ns.map D.int).any fun z => feq z (e_ib v)) else none) = _
 rw [flD_ib, all_fl, any_ib]; rfl
theorem dIn2_ib (v : IB) (ns : List Int) : dIn2 (e_ib v) (.tup (ns.map D.int)) = some (.val (.bl (decide (ibN v ∈ ns)))) := by
 unfold dIn2; rw [dIn_ib]; rfl
theorem dGe_ib (v : IB) (n : Int) : dGe (e_ib v) (.int n) = (ibI v).bind fun a => some (.val (.bl (decide (n ≤ a)))) := by cases v <;> rfl
theorem dNe_ib (v : IB) (n : Int) : dNe (e_ib v) (.int n) = some (.val (.bl (!decide (ibN v = n)))) := by
 cases v with
 | i m =>
  show some (Rv.val (D.bl (!(m == n)))) = _
  have : (m == n) = decide (m = n) := by by_cases h : m = n <;> simp [h]
  rw [this]; rfl
 | b x =>
  show some (Rv.val (D.bl (!((if x then (1 : Int) else 0) == n)))) = _
  have : ((if x then (1 : Int) else 0) == n) = decide ((if x then (1 : Int) else 0) = n) := by by_cases h : (if x then (1 : Int) else 0) = n <;> simp [h]
  rw [this]; rfl
theorem dNe_ib_o (v : IB) (o : Option Int) : dNe (e_ib v) (eO D.int o) = some (.val (.bl (!decide (some (ibN v) = o)))) := by
 cases o with
 | none => cases v <;> rfl
 | some n =>
  show dNe (e_ib v) (.int n) = _
  rw [dNe_ib]
  congr 4
  exact decide_eq_decide.mpr ⟨fun h => by rw [h], fun h => Option.some.inj h⟩
section
variable {ρ : List S} {γ : Type} {kx : Xn → List S → Option γ}
theorem sRaiseF_eq (C fld : Str) (ga : M (List Rv)) : sRaiseF C fld ga ρ = cps ga ρ (fun e ρ1 => some (.ex e ρ1)) fun rs ρ1 => raF C fld rs ρ1 := by
 unfold sRaiseF thenS cps
 cases ga ρ with
 | none => rfl
 | some o => cases o <;> rfl
theorem raF_1 (C fld : Str) (d : D) : raF C fld [.val d] ρ = some (.ex ⟨C, [fld], [d]⟩ ρ) := rfl
theorem xfO_1 (a dx : Addr) (f : Str) (v : D) : xfO a dx f (.xob a dx [f] [v]) = some v := if_pos ⟨rfl, rfl, rfl⟩
local macro_rules | `(tactic| simp? only [$as,*] $[$lo]?) => `(tactic| simp only [Tl.ob_some, Tl.ob_none, Tl.ob_assoc, Tl.om_eq, Tl.ob_ite, Tl.gz_small, Tl.gb_true, Tl.tt_true, Tl.ft_false, Tl.ite_T, Tl.ite_F, Tl.ite_fun, Tl.b_not_t, Tl.b_not_f, Tl.b_at, Tl.b_af, Tl.b_ot, Tl.b_of, Tl.b_ta, Tl.b_fa, Tl.g_zero, Tl.g_succ, Tl.s_zero, Tl.s_succ, Tl.gd_zero, Tl.gd_succ, Tl.a_cons, Tl.a_nil, Tl.a_nil2, Tl.m_cons, Tl.m_nil, Tl.m_app, Tl.m_map, Tl.m_idf, Tl.l_cons, Tl.l_nil, Tl.l_map, Tl.l_app, Tl.e_map, Tl.e_cons, Tl.e_nil, Tl.r_zero, Tl.r_succ, Tl.tl_cons, Tl.tl_nil, Tl.any_cons', Tl.any_nil', Tl.all_cons', Tl.all_nil', Tl.mem_one, Tl.eqs_self, Tl.tt_and, Tl.cps_bind, Tl.cps_pure, Tl.cps_fail, Tl.cps_ofO, Tl.cps_ite, Tl.cps_var, Tl.varK_v, Tl.varK_o, Tl.cps_C, Tl.set_v, Tl.set_o, Tl.set_a, Tl.cps_peek_v, Tl.cps_peek_o, Tl.cps_peek_a, Tl.peekK_v, Tl.peekK_o, Tl.cps_toV_v, Tl.cps_toV_o, Tl.cps_toV_a, Tl.toVK_v, Tl.toVK_o, Tl.peeks_n, Tl.peeks_c, Tl.toVs_n, Tl.toVs_c, Tl.toVs_vals, Tl.toVs_vals0, Tl.toVs_mv, Tl.toVs_mv0, Tl.cps_bin, Tl.cps_aNil, Tl.cps_aCons, Tl.it_l, Tl.it_t, Tl.cps_aStar, Tl.cps_eB, Tl.cps_tup, Tl.cps_lst, Tl.ofI_i, Tl.cps_oNo, Tl.cps_oSome, Tl.cps_sl, Tl.cps_neg, Tl.cps_tru, Tl.cps_tVal, Tl.cps_tNot, Tl.cps_tAnd, Tl.cps_tOr, Tl.cps_eNot, Tl.cps_eAnd, Tl.cps_eOr, Tl.cps_eIf, Tl.ofBl_b, Tl.cps_tCmp, Tl.cps_yes, Tl.cps_fld, Tl.cps_frz, Tl.prep_n, Tl.prep_t, Tl.prep_f, Tl.prep_z, Tl.cps_call, Tl.callO_ret, Tl.callO_ex, Tl.na_v, Tl.na_o, Tl.cps_eCall, Tl.ssOfs_n, Tl.ssOfs_c, Tl.ssOf_v, Tl.ssOf_a, Tl.ssK_v, Tl.ssK_o, Tl.dist_n, Tl.dist_v, Tl.dist_a, Tl.isAli_v, Tl.isAli_a, Tl.noAli_n, Tl.noAli_v, Tl.noAli_a, Tl.scaR_o, Tl.scaR_v, Tl.sca_n, Tl.sca_b, Tl.sca_i, Tl.sca_s, Tl.sca_l, Tl.sca_t, Tl.sca_ob, Tl.back_n, Tl.back_v, Tl.back_a, Tl.back1_eq, Tl.b1K_o, Tl.b1K_v, Tl.ownOr_o, Tl.cps_makeM, Tl.makeO_ret, Tl.makeO_ex, Tl.cps_eMake, Tl.cps_ckC, Tl.cps_ckO, Tl.cps_meth, Tl.cps_own2, Tl.cps_ownIn, Tl.ownLst_a, Tl.ownK_o, Tl.cps_append, Tl.ofL_l, Tl.cps_extend, Tl.cps_clear, Tl.cps_iSeq, Tl.cps_rng1, Tl.cps_rng2, Tl.cps_zip, Tl.cps_enu, Tl.rangeD_eq, Tl.dRng1_eq, Tl.dRng2_eq, Tl.dZip_l, Tl.dZip_t, Tl.dEnum_l, Tl.dEnum_t, Tl.sSeq_eq, Tl.sq_none, Tl.sq_nx, Tl.sq_rt, Tl.sq_ct, Tl.sq_bk, Tl.sq_ex, Tl.sq_bind, Tl.sq_ite, Tl.thenS_eq, Tl.sNil_eq, Tl.sPass_eq, Tl.sBreak_eq, Tl.sCont_eq, Tl.sNever_eq, Tl.sRetN_eq, Tl.sExpr_eq, Tl.retV_v, Tl.retV_o, Tl.retV_a, Tl.retK_v, Tl.retK_o, Tl.sRet_eq, Tl.setV_v, Tl.setV_o, Tl.setV_a, Tl.setK_v, Tl.setK_o, Tl.sSet_eq, Tl.sIf_eq, Tl.sFor_eq, Tl.asg_eq, Tl.sAsg_eq, Tl.sSetIx_eq, Tl.ownObj_a, Tl.ownObK_o, Tl.sSetF_eq, Tl.putF2_n, Tl.putF2_c, Tl.lkF_c, Tl.fldO_eq, Tl.nrm_n, Tl.nrm_k, Tl.nrm_f, Tl.frz1_o, Tl.frz1_v, Tl.frz1_n, Tl.kil_n, Tl.kil_c, Tl.sFore_eq, Tl.sAft_eq, Tl.sFz_eq, Tl.aq_bind, Tl.aq_ite, Tl.aq_none, Tl.aq_nx, Tl.aq_ct, Tl.aq_bk, Tl.aq_rt, Tl.aq_ex, Tl.sRtA_eq, Tl.rq_bind, Tl.rq_ite, Tl.rq_none, Tl.rq_rtv, Tl.rq_rto, Tl.rq_ex, Tl.gN_eq, Tl.gT_eq, Tl.gsN_eq, Tl.gsC_eq, Tl.rtn_bind, Tl.rtn_ite, Tl.rtn_none, Tl.rtn_nx, Tl.rtn_rtv, Tl.rtn_rto, Tl.rtn_ex, Tl.post_n, Tl.post_v, Tl.post_o, Tl.sq_lpO, Tl.aq_lpO, Tl.sq_k, Tl.aq_k, Tl.rq_k, Tl.rtn_k, Tl.ob_k, Tl.cfO_nx, Tl.cfO_ct, Tl.cfO_bk, Tl.cfO_rt, Tl.cps_lc, Tl.noOwn_n, Tl.noOwn_c, Tl.isOwn_o, Tl.isOwn_v, Tl.isOwn_n, Tl.wipe_n, Tl.wipe_c, Tl.back_n', Tl.back_c', Tl.add_ii, Tl.add_tt, Tl.add_ll, Tl.sub_ii, Tl.mul_ii, Tl.div_ii, Tl.mod_ii, Tl.pow_ii, Tl.lt_ii, Tl.le_ii, Tl.gt_ii, Tl.ge_ii, Tl.eO_none, Tl.eO_some, Tl.lt_io, Tl.gt_io, Tl.lt_oi, Tl.gt_oi, Tl.is_oi, Tl.isn_oi, Tl.is_ot, Tl.isn_ot, Tl.sca_oi, Tl.sca_ob', Tl.is_bb, Tl.isn_bb, Tl.is_nn, Tl.is_in, Tl.is_ln, Tl.is_tn, Tl.is_on, Tl.isn_nn, Tl.isn_in, Tl.isn_ln, Tl.isn_tn, Tl.isn_on, Tl.it_sq, Tl.eSq_t, Tl.eSq_l, Tl.len_sq, Tl.eq_ii, Tl.ne_ii, Tl.eq_bb, Tl.ne_bb, Tl.eq_li, Tl.ne_li, Tl.eq_ti, Tl.ne_ti, Tl.eq_l0, Tl.ne_l0, Tl.in_il, Tl.in_it, Tl.in_is, Tl.notIn_il, Tl.notIn_it, Tl.notIn_is, Tl.in_rl, Tl.notIn_rl, Tl.tru_n, Tl.tru_b, Tl.tru_i, Tl.tru_l, Tl.tru_t, Tl.ix_lc, Tl.ix_tc, Tl.ix_lm, Tl.ix_tm, Tl.ix_sm, Tl.ix_sc, Tl.atI_map', Tl.at0, Tl.at1, Tl.at2, Tl.at3, Tl.set_map, Tl.sl_l, Tl.sl_t, Tl.len_l, Tl.len_t, Tl.len_s, Tl.int_i, Tl.int_b, Tl.max_ii, Tl.min_ii, Tl.list_l, Tl.list_t, Tl.list_s, Tl.tuple_l, Tl.tuple_t, Tl.tuple_s, Tl.sorted_i, Tl.maxL_i, Tl.minL_i, Tl.sum_i, Tl.all_b, Tl.any_b, Tl.isi_eq, Tl.ty_n, Tl.ty_b, Tl.ty_i, Tl.ty_s, Tl.ty_l, Tl.ty_t, Tl.il_ii, Tl.il_ib, Tl.il_it, Tl.il_il, Tl.il_bb, Tl.il_bi, Tl.il_bl, Tl.il_bt, Tl.il_ll, Tl.il_lt, Tl.il_li, Tl.il_lb, Tl.il_tt, Tl.il_tl, Tl.il_ti, Tl.il_tb, Tl.il_ss, Tl.il_si, Tl.il_sb, Tl.il_ni, Tl.il_nb, Tl.il_nl, Tl.il_nt, Tl.cps_lc2, Tl.augK_v, Tl.sAug_eq, Tl.gadd_ii, Tl.gsub_ii, Tl.gmul_ii, Tl.cps_ownIx, Tl.cps_ownCall, Tl.cps_lrg, Tl.cps_iOwn, Tl.cps_lOwn, Tl.cps_lent, Tl.lentK_eq, Tl.lent_and, Tl.scaRv_i, Tl.scaRv_b, Tl.frzA_n, Tl.frzA_c, Tl.fzS_n, Tl.fzS_v, Tl.fzS_o, Tl.ownL_n, Tl.ownL_no, Tl.ownL_v, Tl.ownL_o, Tl.e_tree_fin, Tl.e_tree_ask, Tl.ix_tree0, Tl.ix_tree1, Tl.ix_tree2, Tl.len_tree, Tl.eq_tag_end, Tl.eq_tag_ask, Tl.ne_tag_end, Tl.ne_tag_ask, Tl.so_t, Tl.so_f, Tl.ite_same, Tl.cps_un, Tl.l1_o, Tl.cps_aTmpR, Tl.cps_aTmp, Tl.cps_aConsT, Tl.tkK_v, Tl.tkK_o, Tl.tk_z, Tl.tk_s, Tl.cps_callT, Tl.cps_eCallT, Tl.cps_eCallK, Tl.cps_dix, Tl.il_ns, Tl.il_bs, Tl.il_is, Tl.il_ls, Tl.il_ts, Tl.il_sl, Tl.il_st, Tl.sMatch_eq, Tl.setD_n, Tl.setD_c, Tl.kNil_eq, Tl.cps_aTmp2R, Tl.cps_aTmp2, Tl.cps_aConsT2, Tl.cps_callT2, Tl.cps_eCallT2, Tl.ofTp_t, Tl.cps_extendT, Tl.any_bm, Tl.all_bm, Tl.is_otree, Tl.isn_otree, Tl.ne_lt0, Tl.eq_ll0, Tl.int_o, Tl.ge_oi, Tl.le_oi, Tl.lpO_E, Tl.keyO_T, Tl.inN_f, Tl.getN_f, Tl.putN_f, Tl.cps_dicN, Tl.cps_getN, Tl.eInN_eq, Tl.ownNdi_a, Tl.ownNK_n, Tl.sSetN_eq, Tl.l1N_o, Tl.cps_aTmpRN, Tl.cps_aTmpN, Tl.cps_aConsTN, Tl.cps_callTN, Tl.cps_eCallTN, Tl.inN_i, Tl.getN_i, Tl.putN_i, Tl.inN_b, Tl.notInN_b, Tl.putN_b, Tl.inN_k, Tl.getN_k, Tl.dicOne_b, Tl.cps_dic1, Tl.eNotInN_eq, Tl.or_tt, Tl.oRv_n, Tl.oRv_s, Tl.oRv_na, Tl.rtn_oo, Tl.oRv_toV, Tl.is_ol, Tl.isn_ol, Tl.eq_rn, Tl.cps_eDcN, Tl.eq_l0t, Tl.ne_l0t, Tl.cps_eCallD, Tl.gt_oo, Tl.unO_i, Tl.ty_tree, Tl.glen_tree, Tl.eq_ll0g, Tl.or_f0, Tl.cast_2, Tl.cast_3, Tl.intD_i, Tl.popT_map, Tl.insT_map, Tl.index_i, Tl.isLst_l, Tl.in_ll, Tl.notIn_ll, Tl.cps_popAt, Tl.cps_insK, Tl.cps_insA, Tl.cps_insert, Tl.cps_ckLv, Tl.cps_index, Tl.le_oo, Tl.cps_prop, Tl.nx_eq, Tl.nxO_ret, Tl.cps_eMakeK, Tl.fillR_n, Tl.fillR_d, Tl.fillR_0, Tl.fillR_1, Tl.sAugF_eq, Tl.intOf_i, Tl.le_io, Tl.ge_io, Tl.sRaise_eq, Tl.sTry_eq, Tl.tryQ_bind, Tl.tryQ_ite, Tl.tryQ_none, Tl.tryQ_ex, Tl.suH_eq, Tl.e_ib_i, Tl.e_ib_b, Tl.dIn_ib, Tl.dIn2_ib, Tl.dGe_ib, Tl.dNe_ib, Tl.dNe_ib_o, Tl.sRaiseF_eq, Tl.raF_1, Tl.xfO_1, reduceIte, Nat.reduceAdd, Nat.reduceSub, Nat.reduceMul, Nat.reduceLT, Nat.reduceGT, Nat.reduceLeDiff, Nat.reduceEqDiff, Nat.reduceBEq, Nat.reduceBNe, Int.reduceNeg, Int.reduceAdd, Int.reduceSub, Int.reduceMul, Int.reduceLT, Int.reduceLE, Int.reduceGT, Int.reduceGE, Int.reduceEq, Int.reduceNe, Int.reduceBEq, Int.reduceBNe, Int.reducePow, $as,*] $[$lo]?)
theorem cps_xf (a dx : Addr) (fld : Str) (ge : M Rv) (k : Rv → List S → Option γ) : cps (gXf a dx fld ge) ρ kx k = cps ge ρ kx fun r ρ1 => cps (peek r) ρ1 kx fun d ρ2 => (xfO a dx fld d).bind fun v => k (.val v) ρ2 := by
 unfold gXf; simp? only [Tl.ob_some]
def fnB (F : Fn) (d p : D) : Option Bool := match F [.val d, .val p] with
 | some (.ret (.val (.bl b)) _) => some b
 | _ => none
def valO : Option S → Option D
 | some (.val d) => some d
 | _ => none
theorem valO_v (d : D) : valO (some (.val d)) = some d := rfl
def suE (C fld : Str) (F : Fn) (i j : Nat) (ks : List Nat) : Xn → List S → Option Os
 | ⟨c, [f], [d]⟩, ρ => if c = C ∧ f = fld ∧ i < ρ.length ∧ i ≠ j then (valO ρ[j]?).bind fun p => (fnB F d p).bind fun b => some (.rt (.val (.bl b)) (kil ks ρ)) else none
 | _, _ => none
theorem suE_eq (C fld : Str) (F : Fn) (i j : Nat) (ks : List Nat) (d : D) : suE C fld F i j ks ⟨C, [fld], [d]⟩ ρ = if i < ρ.length then if i = j then none else (valO ρ[j]?).bind fun p => (fnB F d p).bind fun b => some (.rt (.val (.bl b)) (kil ks ρ)) else none := by
 show (if C = C ∧ fld = fld ∧ i < ρ.length ∧ i ≠ j then (valO ρ[j]?).bind fun p => (fnB F d p).bind fun b => some (Os.rt (.val (.bl b)) (kil ks ρ)) else none) = _
 by_cases h : i < ρ.length
 · by_cases e : i = j
   · rw [if_neg (fun z => z.2.2.2 e), if_pos h, if_pos e]
   · rw [if_pos ⟨rfl, rfl, h, e⟩, if_pos h, if_neg e]
 · rw [if_neg (fun z => h z.2.2.1), if_neg h]
theorem tryQ_exF (C fld : Str) (d : D) (su : Xn → List S → Option Os) : tryQ (hit1 C) su (some (.ex ⟨C, [fld], [d]⟩ ρ)) = su ⟨C, [fld], [d]⟩ ρ := by
 show (match hit1 C C with
  | some true => su ⟨C, [fld], [d]⟩ ρ
  | some false => some (.ex ⟨C, [fld], [d]⟩ ρ)
  | none => none) = _
 unfold hit1
 rw [if_pos rfl]
end
def DHelpE (P : Program) (w : World) (K : PySem.W.Frag) (mg : Str → Option Value) (base : Heap) (x : Str) (k : Nat) (C fld : Str) (F : Fn) : Prop :=
 ∃ fnA : Addr → Addr → Fn, (∀ a dx d p b, fnB F d p = some b → fnA a dx [.val (.xob a dx [fld] [d]), .val p] = some (.ret (.val (.bl b)) [.val (.xob a dx [fld] [d]), .val p])) ∧ DFE P w K mg base x k 2 C fnA
theorem DHelpE.up {P : Program} {w : World} {K : PySem.W.Frag} {mg : Str → Option Value} {base : Heap} {x C fld : Str} {j k : Nat} {F : Fn} (h1 : DHelpE P w K mg base x j C fld F) (h : j ≤ k) : DHelpE P w K mg base x k C fld F :=
 let ⟨fnA, a, b⟩ := h1; ⟨fnA, a, b.up h⟩
section
open L2 PyProof.Rows
variable {X : Cx} {W : WX} {np i j k : Nat} {x n hp v fld : Str} {pos pos' p p2 p3 p4 p5 p6 : Pos} {body : List Stmt} {fb : MS} {F : Fn} {ks : List Nat}
end
end Tl
namespace Tl
open PySem Dl
open L2 (ixN atI)
def KeepB (F : Fn) : Prop := ∀ d p b, fnB F d p = some b → F [.val d, .val p] = some (.ret (.val (.bl b)) [.val d, .val p])
def suI (C fld : Str) (F : Fn) (m i j : Nat) (ks : List Nat) : Xn → List S → Option Os := fun e ρ => if ρ.length = m then suE C fld F i j ks e ρ else none
theorem suI_eq (C fld : Str) (F : Fn) (m i j : Nat) (ks : List Nat) (e : Xn) (ρ : List S) : suI C fld F m i j ks e ρ = if ρ.length = m then suE C fld F i j ks e ρ else none := rfl
theorem suI_ok {C fld : Str} {F : Fn} {m i j : Nat} {ks : List Nat} {f : Addr → Addr → MS} (hev : ∀ a dx ρ d p b, ρ.length = m → ρ[j]? = some (.val p) → fnB F d p = some b → f a dx (ρ.set i (.val (.xob a dx [fld] [d]))) = some (.rt (.val (.bl b)) (kil ks ρ))) (a dx : Addr) (e : Xn) (ρ : List S) (o : Os) (h : suI C fld F m i j ks e ρ = some o) :
  e.ns ≠ [] ∧ ∃ r ρ', o = .rt r ρ' ∧ (if e.c = C then f a dx else sNever) (ρ.set i (.val (.xob a dx e.ns e.ds))) = some (.rt r ρ') := by
 unfold suI at h
 by_cases hm : ρ.length = m
 · rw [if_pos hm] at h
   unfold suE at h
   split at h
   · rename_i c f' d
     by_cases q : c = C ∧ f' = fld ∧ i < ρ.length ∧ i ≠ j
     · rw [if_pos q] at h
       obtain ⟨rfl, rfl, qi, qj⟩ := q
       obtain ⟨p, hp, h⟩ := Option.bind_eq_some_iff.mp h
       obtain ⟨b, hb, h⟩ := Option.bind_eq_some_iff.mp h
       cases h
       have hj : ρ[j]? = some (.val p) := by
        unfold valO at hp
        split at hp
        · rename_i x e; cases hp; exact e
        · cases hp
       refine ⟨List.cons_ne_nil _ _, _, _, rfl, ?_⟩
       dsimp only
       rw [if_pos rfl]
       exact hev a dx ρ d p b hm hj hb
     · rw [if_neg q] at h; cases h
   · cases h
 · rw [if_neg hm] at h; cases h
section
open L2 PyProof.Rows
variable {X : Cx} {W : WX} {np m i j : Nat} {x n fld : Str} {pos pos' p : Pos} {body suite : List Stmt} {b₀ : Stmt} {fb : MS} {F : Fn} {ks : List Nat} {f : Addr → Addr → MS}
theorem ds_tryI (go : Go X W) (hm : X.mg x = some (.ref (He.ga X.K x))) (hit : PySem.W.exmOne X.K (.ref (He.ga X.K x)) (.ref (He.ga X.K x)) = some true)
  (hb : ∀ (W' : WX) (pn : List (Addr × Obj)) (xe : Value → Shared → Prop), Go (X.tr pn xe) W' → DL (X.tr pn xe) W' np body fb)
  (hsu : ∀ (a dx : Addr) (oe : Obj) (pn : List (Addr × Obj)), HotF (X.suite a ((a, oe) :: pn)) x a dx → DL (X.suite a ((a, oe) :: pn)) WX0 np (b₀ :: suite) (f a dx))
  (hev : ∀ a dx ρ d p b, ρ.length = m → ρ[j]? = some (.val p) → fnB F d p = some b → f a dx (ρ.set i (.val (.xob a dx [fld] [d]))) = some (.rt (.val (.bl b)) (kil ks ρ)))
  (hi : X.N[i]? = some n) (hg : Gl X x := by exact rfl) (hdx : (x == ("__debug__" : Str)) = false := by decide)
  (hs : X.stack = X.env :: X.outer := by rfl) (hf : X.env.frame = some X.env.locals := by rfl) (hln : X.env.kindOf n = some .local := by rfl) :
  DS X W np (.Try body [.ExceptHandler (some (.Name x p)) (some n) (b₀ :: suite) pos'] [] [] pos) (sTry (hit1 x) fb (suI x fld F m i j ks)) := by
 refine ds_tryF (fsu := fun a dx c => if c = x then f a dx else sNever) go ⟨hg, hdx, .inl hm⟩ (fun c b e => ?_) hb (fun a dx oe C pn hz => ?_) (fun a dx e ρ o h => suI_ok hev a dx e ρ o h) hi hs hf hln
 · unfold hit1 at e
   by_cases q : c = x
   · rw [if_pos q] at e; cases e; rw [q]; exact hit
   · rw [if_neg q] at e; cases e
 · by_cases q : C = x
   · subst q
     simp only [if_pos rfl]
     exact hsu a dx oe pn hz
   · simp only [if_neg q]
     exact dl_never
end
def cfX {E R : Type} (st : E → List S) (xv : R → Xn) (rs : R → List S) : Cf E R → Os
 | .nx e => .nx (st e)
 | .ct e => .ct (st e)
 | .bk e => .bk (st e)
 | .rt r => .ex (xv r) (rs r)
def lpX {E R : Type} (st : E → List S) (xv : R → Xn) (rs : R → List S) (o : Cf E R) : Os := o.k (fun e => .nx (st e)) (fun r => .ex (xv r) (rs r))
section
variable {α E R : Type} {e : α → D} {st : E → List S} {xv : R → Xn} {rs : R → List S} {tg : D → List S → Option (List S)} {body : MS}
theorem sq_lpX (o : Cf E R) (g : MS) : sq (some (lpX st xv rs o)) g = o.k (fun e => g (st e)) (fun r => some (.ex (xv r) (rs r))) := by cases o <;> rfl
theorem aq_lpX (o : Cf E R) (l : List (Nat × Bool)) : aq l (some (lpX st xv rs o)) = o.k (fun e => some (.nx (nrm l (st e)))) (fun r => some (.ex (xv r) (rs r))) := by cases o <;> rfl
theorem cfX_nx (x : E) : cfX st xv rs (.nx x) = .nx (st x) := rfl
theorem cfX_ct (x : E) : cfX st xv rs (.ct x) = .ct (st x) := rfl
theorem cfX_bk (x : E) : cfX st xv rs (.bk x) = .bk (st x) := rfl
theorem cfX_rt (x : R) : cfX st xv rs (.rt x) = .ex (xv x) (rs x) := rfl
theorem whL_cx {test : E → Option Bool} {body : E → Option (Cf E R)} {g : M Bool} {bd : MS} (h1 : ∀ env, g (st env) = (test env).bind fun b => some (.ok b (st env))) (h2 : ∀ env, bd (st env) = (body env).bind fun o => some (cfX st xv rs o)) (env : E) :
  whL g bd (st env) = (whT test body env).bind fun o => some (lpX st xv rs o) := by
 have a1 : ∀ n env, whN g bd n (st env) = (whF test body n env).bind fun o => some (lpX st xv rs o) := by
  intro n
  induction n with
  | zero => intro env; rfl
  | succ n ih =>
   intro env
   unfold whN whF
   rw [h1]
   cases test env with
   | none => rfl
   | some b =>
    cases b with
    | false => rfl
    | true =>
     dsimp only [Option.bind]
     rw [h2, if_pos rfl]
     cases body env with
     | none => rfl
     | some o => cases o with
      | nx e' => exact ih e'
      | ct e' => exact ih e'
      | bk e' => rfl
      | rt r => rfl
 cases q : whT test body env with
 | some o =>
  obtain ⟨n, hn⟩ := whT_some q
  refine whL_of (n := n) ?_
  rw [a1, hn]; rfl
 | none =>
  cases p : whL g bd (st env) with
  | none => rfl
  | some o =>
   exfalso
   obtain ⟨n, hn⟩ := whL_some p
   rw [a1] at hn
   cases q2 : whF test body n env with
   | none => rw [q2] at hn; cases hn
   | some o2 => rw [whT_of q2] at q; cases q
end
def ibB : IB → Bool
 | .i _ => false
 | .b _ => true
theorem isi_ib_bool (v : IB) : gIsi [e_ib v, .ty "bool"] = some (.val (.bl (ibB v))) := by
 cases v with
 | i n => rw [e_ib_i, isi_eq]; rfl
 | b x => rw [e_ib_b, isi_eq]; rfl
theorem ty_ib_bool {α : Type} (v : IB) (K : Bool → Option α) : ((tyNm (e_ib v)).bind fun a => (isLook a "bool").bind K) = K (ibB v) := by
 have h := isi_ib_bool v
 rw [isi_eq] at h
 cases q : (tyNm (e_ib v)).bind fun a => isLook a "bool" with
 | none => rw [q] at h; cases h
 | some b =>
  rw [q] at h
  have e : b = ibB v := by injection h with h; injection h with h; injection h
  subst e
  rw [← Option.bind_assoc, q]; rfl
theorem add_ib (n : Int) (v : IB) : dAdd (.int n) (e_ib v) = (ibI v).bind fun m => dAdd (.int n) (.int m) := by cases v <;> rfl
theorem dIx_ib_t (xs : List D) (v : IB) : dIx (.tup xs) (e_ib v) = (ibI v).bind fun i => dIx (.tup xs) (.int i) := by cases v <;> rfl
theorem dIx_ib_l (xs : List D) (v : IB) : dIx (.lst xs) (e_ib v) = (ibI v).bind fun i => dIx (.lst xs) (.int i) := by cases v <;> rfl
theorem map_ib_i (xs : List Int) : List.map e_ib (List.map (fun y => IB.i y) xs) = List.map D.int xs := by rw [List.map_map]; rfl
theorem map_ib_i2 (xs : List Int) : List.map e_ib (List.map IB.i xs) = List.map D.int xs := by rw [List.map_map]; rfl
end Tl
namespace My
open PySem Dl Tl
open L2 (ixN atI)
noncomputable section
def tc_BadAnswer : List (Str × Bool) := [("BadRule", false), ("BadBox", false), ("BadTree", false), ("BadTurn", false), ("BadRow", false), ("AskError", true)]
def tt_BadAnswer : List (String × Bool) := [("ValueError", true)]
def NZcell : List Str := ["_law_script", "_law_k"]
def fZcell : MS :=
 (sSeq (sIf (tCmp (eLt (eVar 1) (eB gLen (aCons (eVar 0) aNil)))) (sRtA [0, 1] (sRet (eIx (eVar 0) (eVar 1)))) sNil)
 (sRtA [0, 1] (sRet (eC (.int 0)))))
def FnZcell : Fn := mkFn 2 2 (fZcell )
def NZsource : List Str := ["_law_cell_here"]
def fZsource : MS :=
 (sSeq (sIf (tCmp (eGe (eVar 0) (ePow (eC (.int 10)) (eC (.int 18))))) (sRtA [0] (sRet (eLst (aCons (eVar 0) (aCons (eC (.int 0)) (aCons (eVar 0) aNil)))))) sNil)
 (sRtA [0] (sRet (eLst (aCons (eC (.int 0)) (aCons (eC (.int 0)) (aCons (eVar 0) aNil)))))))
def FnZsource : Fn := mkFn 1 1 (fZsource )
def NZdraw : List Str := ["_law_source_here", "_law_limit", "_law_mixed", "_law_digit"]
def fZdraw : MS :=
 (sSeq (sSetIx (eAdd (eIx (eVar 0) (eC (.int 1))) (eC (.int 1))) (eVar 0) (eC (.int 1)))
 (sSeq (sIf (tCmp (eGt (eIx (eVar 0) (eC (.int 0))) (eC (.int 0)))) (sSeq (sSet 2 3 (eMod (eB gInt (aCons (eIx (eVar 0) (eC (.int 0))) aNil)) (eVar 1)))
 (sSeq (sSetIx (eDiv (eIx (eVar 0) (eC (.int 0))) (eVar 1)) (eVar 0) (eC (.int 0)))
 (sRtA [1, 2, 3] (sRet (eVar 3))))) sNil)
 (sSeq (sSet 2 2 (eMod (eB gInt (aCons (eAdd (eMul (eIx (eVar 0) (eC (.int 2))) (eC (.int 48271))) (eMul (eIx (eVar 0) (eC (.int 1))) (eC (.int 69621)))) aNil)) (eC (.int 2147483647))))
 (sSeq (sSet 2 2 (eMod (eB gInt (aCons (eAdd (eAdd (eMul (eVar 2) (eVar 2)) (eMul (eIx (eVar 0) (eC (.int 1))) (eC (.int 40692)))) (eC (.int 7))) aNil)) (eC (.int 2147483629))))
 (sRtA [1, 2, 3] (sRet (eMod (eB gInt (aCons (eAdd (eDiv (eVar 2) (eC (.int 8))) (eMul (eVar 2) (eC (.int 10000019)))) aNil)) (eVar 1))))))))
def FnZdraw : Fn := mkFn 2 4 (fZdraw )
def NZsizes : List Str := ["_law_source_here", "_law_parties", "_law_standings", "_law_cap", "_law_top", "_law_sizes_here", "_law_many", "_law_k", "_law_turn", "_law_size"]
def iZsizes_1 : MS := sIf (tCmp (eGt (eMul (eVar 6) (eVar 9)) (eVar 3))) (sSet 4 9 (eC (.int 1))) sNil
def bZsizes_1 (FZdraw : Fn) : MS := (sAft [(7, true), (9, true)] (sSeq (sSet 4 9 (eAdd (eC (.int 1)) (eCall [true, false] FZdraw (aCons (eVar 0) (aCons (eVar 4) aNil)))))
 (sSeq iZsizes_1
 (sSeq (sSet 4 6 (eMul (eVar 6) (eVar 9)))
 (sExpr (mAppend (eVar 5) (eVar 9)))))))
def lZsizes_1 (FZdraw : Fn) : MS := sFor (iRng1 (aCons (eAdd (eC (.int 1)) (eCall [true, false] FZdraw (aCons (eVar 0) (aCons (eVar 1) aNil)))) aNil)) (gN 7) (bZsizes_1 FZdraw)
def fZsizes (FZdraw : Fn) : MS :=
 (sSeq (sSet 4 4 (eB gMin2 (aCons (eB gInt (aCons (eVar 2) aNil)) (aCons (eIx (eLst (aCons (eC (.int 2)) (aCons (eC (.int 3)) (aCons (eC (.int 4)) (aCons (eC (.int 6)) aNil))))) (eCall [true, false] FZdraw (aCons (eVar 0) (aCons (eC (.int 4)) aNil)))) aNil))))
 (sSeq (sSet 4 5 (eLst aNil))
 (sSeq (sSet 4 6 (eC (.int 1)))
 (sSeq (lZsizes_1 FZdraw)
 (sSeq (sSet 4 8 (eCall [true, false] FZdraw (aCons (eVar 0) (aCons (eB gLen (aCons (eVar 5) aNil)) aNil))))
 (sRtA [1, 2, 3, 4, 5, 6, 7, 8, 9] (sRet (eAdd (eSl (eVar 5) (oSome (eVar 8)) oNo) (eSl (eVar 5) oNo (oSome (eVar 8)))))))))))
def FnZsizes : Fn := mkFn 4 10 (fZsizes FnZdraw)
def NZfull : List Str := ["_law_sizes_here", "_law_size"]
def cZfull_1 : M Rv := eLc (iSeq (eVar 0)) (gN 1) tYes' (eLRg (eVar 1)) [1]
def fZfull : MS :=
 (sRtA [0, 1] (sRet cZfull_1))
def FnZfull : Fn := mkFn 1 2 (fZfull )
def NZsplit : List Str := ["_law_side", "_law_source_here", "_law_marks", "_law_cells", "_law_mark", "_law_odd", "_law_cell_here", "_law_standing", "_law_k"]
def cZsplit_1 (FZdraw : Fn) : M Rv := eLc (iSeq (eVar 0)) (gN 7) tYes' (eCall [true, false] FZdraw (aCons (eVar 1) (aCons (eC (.int 3)) aNil))) [7]
def cZsplit_2 : M Rv := eLc (iSeq (eVar 2)) (gN 4) (tCmp (eEq (eVar 4) (eIx (eVar 2) (eC (.int 0))))) (eVar 4) [4]
def iZsplit_1 (FZdraw : Fn) : MS := sIf (lent (fun _ => true) (tCmp (eEq (eB gLen (aCons cZsplit_2 aNil)) (eB gLen (aCons (eVar 2) aNil))))) (sAft [(5, true)] (sSeq (sSet 2 5 (eCall [true, false] FZdraw (aCons (eVar 1) (aCons (eB gLen (aCons (eVar 2) aNil)) aNil))))
 (sSetIx (eAdd (eIx (eVar 2) (eVar 5)) (eC (.int 1))) (eVar 2) (eVar 5)))) sNil
def cZsplit_3 : M Rv := eLc (iRng1 (aCons (eB gLen (aCons (eVar 0) aNil)) aNil)) (gN 8) (tCmp (eEq (eIx (eVar 2) (eVar 8)) (eVar 4))) (eIx (eVar 0) (eVar 8)) [8]
def iZsplit_2 : MS := sIf (tCmp (eNe (eVar 6) (eLst aNil))) (sExpr (mAppend (eVar 3) (eVar 6))) sNil
def bZsplit_1 : MS := (sAft [(4, true), (6, true)] (sSeq (sFz 6 (sSet 2 6 cZsplit_3))
 iZsplit_2))
def lZsplit_1 : MS := sFor (iRng1 (aCons (eC (.int 4)) aNil)) (gN 4) bZsplit_1
def fZsplit (FZdraw : Fn) : MS :=
 (sSeq (sSet 2 2 (cZsplit_1 FZdraw))
 (sSeq (iZsplit_1 FZdraw)
 (sSeq (sSet 2 3 (eLst aNil))
 (sSeq lZsplit_1
 (sRtA [0, 2, 3, 4, 5, 6, 7, 8] (sRet (eVar 3)))))))
def FnZsplit : Fn := mkFn 2 9 (fZsplit FnZdraw)
def NZtree : List Str := ["_law_sides", "_law_source_here", "_law_ends", "_law_wide", "_law_party", "_law_branches", "_law_cell_here", "_law_below", "_law_p"]
def cZtree_1 : M Rv := eLc (iRng1 (aCons (eB gLen (aCons (eVar 0) aNil)) aNil)) (gN 8) (tCmp (eGt (eB gLen (aCons (eIx (eVar 0) (eVar 8)) aNil)) (eC (.int 1)))) (eVar 8) [8]
def tZtree_1 (FZdraw : Fn) : M Bool := (tOr (tCmp (eEq (eVar 3) (eLst aNil))) (tCmp (eEq (eCall [true, false] FZdraw (aCons (eVar 1) (aCons (eC (.int 5)) aNil))) (eC (.int 0)))))
def bZtree_1 (FZtree : Fn) : MS := (sAft [(6, true), (7, true)] (sSeq (sSet 3 7 (eCall [false, true, true] FZtree (aCons (eAdd (eAdd (eSl (eVar 0) oNo (oSome (eVar 4))) (eLst (aCons (eVar 6) aNil))) (eSl (eVar 0) (oSome (eAdd (eVar 4) (eC (.int 1)))) oNo)) (aCons (eVar 1) (aCons (eVar 2) aNil)))))
 (sExpr (mAppend (eVar 5) (eTup (aCons (eB gTuple (aCons (eVar 6) aNil)) (aCons (eVar 7) aNil)))))))
def lZtree_1 (FZsplit FZtree : Fn) : MS := sFor (iSeq (eCall [false, true] FZsplit (aCons (eIx (eVar 0) (eVar 4)) (aCons (eVar 1) aNil)))) (gN 6) (bZtree_1 FZtree)
def fZtree (FZdraw FZsplit FZtree : Fn) : MS :=
 (sSeq (sFz 3 (sSet 3 3 cZtree_1))
 (sSeq (sIf (tZtree_1 FZdraw) (sSeq (sExpr (mAppend (eVar 2) (eB gLen (aCons (eVar 2) aNil))))
 (sRtA [0, 3, 4, 5, 6, 7, 8] (sRet (eTup (aCons (eC (.str "end")) (aCons (eSub (eB gLen (aCons (eVar 2) aNil)) (eC (.int 1))) aNil)))))) sNil)
 (sSeq (sSet 3 4 (eIx (eVar 3) (eCall [true, false] FZdraw (aCons (eVar 1) (aCons (eB gLen (aCons (eVar 3) aNil)) aNil)))))
 (sSeq (sSet 3 5 (eLst aNil))
 (sSeq (lZtree_1 FZsplit FZtree)
 (sRtA [0, 3, 4, 5, 6, 7, 8] (sRet (eTup (aCons (eC (.str "ask")) (aCons (eVar 4) (aCons (eB gTuple (aCons (eVar 5) aNil)) aNil)))))))))))
def FnZtree : Nat → Fn
 | 0 => fun _ => none
 | n + 1 => mkFn 3 9 (fZtree FnZdraw FnZsplit (FnZtree n))
def N_is_integer : List Str := ["value"]
def e_is_integer_1 : M Rv := (eAnd (eB gIsi (aCons (eVar 0) (aCons (eC (.ty "int")) aNil))) (eNot (eB gIsi (aCons (eVar 0) (aCons (eC (.ty "bool")) aNil)))))
def f_is_integer : MS :=
 (sRtA [0] (sRet e_is_integer_1))
def Fn_is_integer : Fn := mkFn 1 1 (f_is_integer )
def N_is_number : List Str := ["value"]
def e_is_number_1 (F_is_integer : Fn) : M Rv := (eAnd (eCall [false] F_is_integer (aCons (eVar 0) aNil)) (eGe (eVar 0) (eC (.int 0))))
def f_is_number (F_is_integer : Fn) : MS :=
 (sRtA [0] (sRet (e_is_number_1 F_is_integer)))
def Fn_is_number : Fn := mkFn 1 1 (f_is_number Fn_is_integer)
def N_ascending : List Str := ["numbers", "kept", "number"]
def c_ascending_1 : M Rv := eLc (iSeq (eVar 0)) (gN 2) tYes' (eB gInt (aCons (eVar 2) aNil)) [2]
def t_ascending_1 : M Bool := (tOr (tNot (tVal (eVar 1))) (tCmp (eNe (eIx (eVar 1) (eNeg (eC (.int 1)))) (eVar 2))))
def i_ascending_1 : MS := sIf t_ascending_1 (sExpr (mAppend (eVar 1) (eVar 2))) sNil
def b_ascending_1 : MS := (sAft [(2, true)] i_ascending_1)
def l_ascending_1 : MS := sFor (iSeq (eB gSorted (aCons c_ascending_1 aNil))) (gN 2) b_ascending_1
def f_ascending : MS :=
 (sSeq (sSet 1 1 (eLst aNil))
 (sSeq l_ascending_1
 (sRtA [0, 1, 2] (sRet (eB gTuple (aCons (eVar 1) aNil))))))
def Fn_ascending : Fn := mkFn 1 3 (f_ascending )
abbrev N_checked_cells : List Str := Tl.N_checked_cells
abbrev f_checked_cells (F_is_number F_ascending : Fn) : MS := Tl.f_checked_cells F_is_number F_ascending
abbrev Fn_checked_cells : Fn := Tl.Fn_cells Fn_is_number Fn_ascending
abbrev N_checked : List Str := Tl.N_checked
abbrev f_checked (F_checked_cells F_checked : Fn) : MS := Tl.f_checked F_checked_cells F_checked
def N_length_of : List Str := ["rows", "cell", "behind"]
def c_length_of_1 (F_length_of : Fn) : M Rv := eLc (iSeq (eIx (eVar 0) (eC (.int 2)))) (gT 2 (gsCons (gN 1) (gsCons (gN 2) gsNil))) tYes' (eB gInt (aCons (eCall [false] F_length_of (aCons (eVar 2) aNil)) aNil)) [1, 2]
def f_length_of (F_length_of : Fn) : MS :=
 (sSeq (sIf (tCmp (eEq (eIx (eVar 0) (eC (.int 0))) (eC (.str "end")))) (sRtA [0, 1, 2] (sRet (eC (.int 0)))) sNil)
 (sRtA [0, 1, 2] (sRet (eAdd (eC (.int 1)) (eB gMaxL (aCons (c_length_of_1 F_length_of) aNil))))))
def Fn_length_of : Nat → Fn
 | 0 => fun _ => none
 | n + 1 => mkFn 1 3 (f_length_of (Fn_length_of n))
def N_Tree_DinitD : List Str := ["self", "rows"]
def f_Tree_DinitD (F_checked F_length_of : Fn) : MS :=
 (sSeq (sSetF ["Tree"] "rows" (eVar 0) (eCall [false, false] F_checked (aCons (eVar 1) (aCons (eTup aNil) aNil))))
 (sSetF ["Tree"] "length" (eVar 0) (eCall [false] F_length_of (aCons (eFld ["Tree"] "rows" (eVar 0)) aNil))))
def NZway : List Str := ["_law_rows", "_law_combo", "_law_path", "_law_k"]
def tZway_1 : M Bool := (tAnd (tNot (tVal (eB gIsi (aCons (eIx (eVar 1) (eIx (eVar 0) (eC (.int 1)))) (aCons (eC (.ty "bool")) aNil))))) (tCmp (eIn (eIx (eVar 1) (eIx (eVar 0) (eC (.int 1)))) (eIx (eIx (eIx (eVar 0) (eC (.int 2))) (eVar 3)) (eC (.int 0))))))
def bZway_1 (FZway : Fn) : MS := (sAft [(3, true)] (sIf tZway_1 (sRtA [0, 1, 2, 3] (sRet (eCall [false, false, false] FZway (aCons (eIx (eIx (eIx (eVar 0) (eC (.int 2))) (eVar 3)) (eC (.int 1))) (aCons (eVar 1) (aCons (eAdd (eVar 2) (eTup (aCons (eVar 3) aNil))) aNil)))))) sNil))
def lZway_1 (FZway : Fn) : MS := sFor (iRng1 (aCons (eB gLen (aCons (eIx (eVar 0) (eC (.int 2))) aNil)) aNil)) (gN 3) (bZway_1 FZway)
def fZway (FZway : Fn) : MS :=
 (sSeq (sIf (tCmp (eEq (eIx (eVar 0) (eC (.int 0))) (eC (.str "end")))) (sRtA [0, 1, 2, 3] (sRet (eTup (aCons (eVar 2) (aCons (eIx (eVar 0) (eC (.int 1))) aNil))))) sNil)
 (sSeq (lZway_1 FZway)
 (sRtA [0, 1, 2, 3] (sRet (eTup (aCons (eVar 2) (aCons (eC .non) aNil)))))))
def FnZway : Nat → Fn
 | 0 => fun _ => none
 | n + 1 => mkFn 3 4 (fZway (FnZway n))
def N_branch_of : List Str := ["rows", "standing", "branch", "cell", "behind"]
def t_branch_of_1 (F_is_number : Fn) : M Bool := (tAnd (tVal (eCall [false] F_is_number (aCons (eVar 1) aNil))) (tCmp (eIn (eVar 1) (eVar 3))))
def b_branch_of_1 (F_is_number : Fn) : MS := (sAft [(2, true), (3, true), (4, true)] (sIf (t_branch_of_1 F_is_number) (sRtA [0, 1, 2, 3, 4] (sRet (eVar 2))) sNil))
def l_branch_of_1 (F_is_number : Fn) : MS := sFor (iEnu (aCons (eIx (eVar 0) (eC (.int 2))) aNil)) (gT 2 (gsCons (gN 2) (gsCons (gT 2 (gsCons (gN 3) (gsCons (gN 4) gsNil))) gsNil))) (b_branch_of_1 F_is_number)
def f_branch_of (F_is_number : Fn) : MS :=
 (sSeq (l_branch_of_1 F_is_number)
 (sRtA [0, 1, 2, 3, 4] (sRet (eC .non))))
def Fn_branch_of : Fn := mkFn 2 5 (f_branch_of Fn_is_number)
def N_Tree_DcallD_x : List Str := ["self", "combination", "rows", "path", "branch"]
def b_Tree_DcallD_x_1 (F_branch_of : Fn) : MS := (sAft [(4, true)] (sSeq (sSet 2 4 (eCall [false, false] F_branch_of (aCons (eVar 2) (aCons (eIx (eVar 1) (eIx (eVar 2) (eC (.int 1)))) aNil))))
 (sSeq (sIf (tCmp (eIs (eVar 4) (eC .non))) (sRtA [0, 1, 2, 3, 4] (sRaiseF "BadAnswer" "path" (aCons (eVar 3) aNil))) sNil)
 (sSeq (sSet 2 2 (eIx (eIx (eIx (eVar 2) (eC (.int 2))) (eUn (eVar 4))) (eC (.int 1))))
 (sSet 2 3 (eTup (aStar (eVar 3) (aCons (eVar 4) aNil))))))))
def l_Tree_DcallD_x_1 (F_branch_of : Fn) : MS := sWhile (tCmp (eEq (eIx (eVar 2) (eC (.int 0))) (eC (.str "ask")))) (b_Tree_DcallD_x_1 F_branch_of)
def f_Tree_DcallD_x (F_branch_of : Fn) : MS :=
 (sSeq (sSet 2 2 (eFld ["Tree"] "rows" (eVar 0)))
 (sSeq (sSet 2 3 (eTup aNil))
 (sSeq (l_Tree_DcallD_x_1 F_branch_of)
 sNever)))
def Fn_Tree_DcallD_x : Fn := mkFn 2 5 (f_Tree_DcallD_x Fn_branch_of)
abbrev NZsame : List Str := Tl.N_same
abbrev fZsame (FZsame : Fn) : MS := Tl.f_same FZsame
def NZrefused : List Str := ["_law_tree_here", "_law_combo", "_law_path", "e"]
def suZrefused_1 (FZsame : Fn) : Addr → Addr → MS := fun a dx => (sSeq (sIf (tOr (tVal (eB (gIsF a dx tc_BadAnswer tt_BadAnswer) (aCons (eVar 3) (aCons (eC (.cls "BadRule")) aNil)))) (tOr (tVal (eB (gIsF a dx tc_BadAnswer tt_BadAnswer) (aCons (eVar 3) (aCons (eC (.cls "BadBox")) aNil)))) (tVal (eB (gIsF a dx tc_BadAnswer tt_BadAnswer) (aCons (eVar 3) (aCons (eC (.cls "BadTree")) aNil)))))) (sRtA [0, 1, 2, 3] (sRet (eC (.bl false)))) sNil)
 (sSeq (sIf (tOr (tVal (eB (gIsF a dx tc_BadAnswer tt_BadAnswer) (aCons (eVar 3) (aCons (eC (.cls "BadTurn")) aNil)))) (tVal (eB (gIsF a dx tc_BadAnswer tt_BadAnswer) (aCons (eVar 3) (aCons (eC (.cls "BadRow")) aNil))))) (sRtA [0, 1, 2, 3] (sRet (eC (.bl false)))) sNil)
 (sRtA [0, 1, 2, 3] (sRet (eAnd (eB (gIsF a dx tc_BadAnswer tt_BadAnswer) (aCons (eVar 3) (aCons (eC (.cls "AskError")) aNil))) (eAnd (eB (gIsF a dx tc_BadAnswer tt_BadAnswer) (aCons (eVar 3) (aCons (eC (.ty "ValueError")) aNil))) (eCall [false, false] FZsame (aCons (gXf a dx "path" (eVar 3)) (aCons (eVar 2) aNil)))))))))
def fZrefused (F_Tree_DcallD_x FZsame : Fn) : MS :=
 (sSeq (sTry (hit1 "BadAnswer") (sExpr (eOwnCall "Tree" [false, false] F_Tree_DcallD_x (eVar 0) (aCons (eVar 1) aNil))) (suI "BadAnswer" "path" FZsame 4 3 2 [0, 1, 2, 3]))
 sNever)
def N_Tree_DcallD : List Str := ["self", "combination", "rows", "path", "branch"]
def b_Tree_DcallD_1 (F_branch_of : Fn) : MS := (sAft [(4, true)] (sSeq (sSet 2 4 (eCall [false, false] F_branch_of (aCons (eVar 2) (aCons (eIx (eVar 1) (eIx (eVar 2) (eC (.int 1)))) aNil))))
 (sSeq (sIf (tCmp (eIs (eVar 4) (eC .non))) sNever sNil)
 (sSeq (sSet 2 2 (eIx (eIx (eIx (eVar 2) (eC (.int 2))) (eUn (eVar 4))) (eC (.int 1))))
 (sSet 2 3 (eTup (aStar (eVar 3) (aCons (eVar 4) aNil))))))))
def l_Tree_DcallD_1 (F_branch_of : Fn) : MS := sWhile (tCmp (eEq (eIx (eVar 2) (eC (.int 0))) (eC (.str "ask")))) (b_Tree_DcallD_1 F_branch_of)
def f_Tree_DcallD (F_branch_of : Fn) : MS :=
 (sSeq (sSet 2 2 (eFld ["Tree"] "rows" (eVar 0)))
 (sSeq (sSet 2 3 (eTup aNil))
 (sSeq (l_Tree_DcallD_1 F_branch_of)
 (sRtA [0, 1, 2, 3, 4] (sRet (eIx (eVar 2) (eC (.int 1))))))))
def Fn_Tree_DcallD : Fn := mkFn 2 5 (f_Tree_DcallD Fn_branch_of)
def N_law : List Str := ["_law_script", "_law_shape", "_law_source_here", "_law_sizes_here", "_law_rows", "_law_tree_here", "_law_turn", "_law_combo", "_law_size", "_law_way_here", "_law_standing"]
def i_law_1 (FZdraw : Fn) : MS := sIf (tCmp (eEq (eCall [true, false] FZdraw (aCons (eVar 2) (aCons (eC (.int 4)) aNil))) (eC (.int 0)))) (sSet 1 10 (eIx (eLst (aCons (eVar 8) (aCons (eAdd (eVar 8) (eCall [true, false] FZdraw (aCons (eVar 2) (aCons (eSub (ePow (eC (.int 10)) (eC (.int 9))) (eC (.int 9))) aNil)))) (aCons (eC (.bl true)) (aCons (eC (.bl false)) aNil))))) (eCall [true, false] FZdraw (aCons (eVar 2) (aCons (eC (.int 4)) aNil))))) sNil
def b_law_1 (FZdraw : Fn) : MS := (sAft [(8, true), (10, true)] (sSeq (sSet 1 10 (eCall [true, false] FZdraw (aCons (eVar 2) (aCons (eVar 8) aNil))))
 (sSeq (i_law_1 FZdraw)
 (sSet 1 7 (eAdd (eVar 7) (eTup (aCons (eVar 10) aNil)))))))
def l_law_1 (FZdraw : Fn) : MS := sFor (iSeq (eVar 3)) (gN 8) (b_law_1 FZdraw)
def b_law_2 (FZdraw FZway FZrefused FZsame F_Tree_DcallD : Fn) : MS := (sAft [(6, true), (7, true), (8, true), (9, true), (10, true)] (sSeq (sSet 1 7 (eTup aNil))
 (sSeq (l_law_1 FZdraw)
 (sSeq (sSet 1 9 (eCall [false, false, false] FZway (aCons (eVar 4) (aCons (eVar 7) (aCons (eTup aNil) aNil)))))
 (sIf (tCmp (eIs (eIx (eVar 9) (eC (.int 1))) (eC .non))) (sIf (tNot (tVal (eCall [false, false, false] FZrefused (aCons (eVar 5) (aCons (eVar 7) (aCons (eIx (eVar 9) (eC (.int 0))) aNil)))))) (sRtA [0, 1, 2, 3, 4, 5, 6, 7, 8, 9, 10] (sRet (eC (.bl false)))) sNil) (sIf (tNot (tVal (eCall [false, false] FZsame (aCons (eOwnCall "Tree" [false, false] F_Tree_DcallD (eVar 5) (aCons (eVar 7) aNil)) (aCons (eIx (eVar 9) (eC (.int 1))) aNil))))) (sRtA [0, 1, 2, 3, 4, 5, 6, 7, 8, 9, 10] (sRet (eC (.bl false)))) sNil))))))
def l_law_2 (FZdraw FZway FZrefused FZsame F_Tree_DcallD : Fn) : MS := sFor (iRng1 (aCons (eC (.int 12)) aNil)) (gN 6) (b_law_2 FZdraw FZway FZrefused FZsame F_Tree_DcallD)
def f_law (FZcell FZsource FZsizes FZfull FZtree F_Tree_DinitD FZdraw FZway FZrefused F_Tree_DcallD FZsame : Fn) : MS :=
 (sSeq (sSet 1 1 (eCall [false] FZsource (aCons (eCall [false, false] FZcell (aCons (eVar 0) (aCons (eC (.int 0)) aNil))) aNil)))
 (sSeq (sSet 1 2 (eCall [false] FZsource (aCons (eCall [false, false] FZcell (aCons (eVar 0) (aCons (eC (.int 2)) aNil))) aNil)))
 (sSeq (sFz 3 (sSet 1 3 (eCall [true, false, false, false] FZsizes (aCons (eVar 1) (aCons (eC (.int 7)) (aCons (eC (.int 6)) (aCons (eC (.int 24)) aNil)))))))
 (sSeq (sSet 1 4 (eCallT2 [false, true, true] FZtree (aConsT2 (eCall [false] FZfull (aCons (eVar 3) aNil)) (aTmp2 (eCall [false] FZsource (aCons (eCall [false, false] FZcell (aCons (eVar 0) (aCons (eC (.int 1)) aNil))) aNil)) (aTmp (eLst aNil) aNil)))))
 (sSeq (sFz 5 (sSet 1 5 (eMake "Tree" [false] F_Tree_DinitD (aCons (eVar 4) aNil))))
 (sSeq (l_law_2 FZdraw FZway FZrefused FZsame F_Tree_DcallD)
 (sRtA [0, 1, 2, 3, 4, 5, 6, 7, 8, 9, 10] (sRet (eCall [false, false] FZsame (aCons (eFld ["Tree"] "rows" (eVar 5)) (aCons (eVar 4) aNil)))))))))))
end
end My
namespace My
open PySem Dl Tl
open L2 (ixN atI)
noncomputable section
abbrev Ty0_ : Type := (QT × (List (Option Int)))
abbrev mI (l : List Int) : List D := List.map D.int l
abbrev mL (l : List (List Int)) : List D := List.map (fun x => (D.lst (List.map D.int x))) l
abbrev mT (l : List (List Int)) : List D := List.map (fun x => (D.tup (List.map D.int x))) l
abbrev mP (r : List (List (List Int)) × List Int × List Int × Option QT) : D := .lst [(.lst (List.map (fun x => (D.lst (List.map (fun x => (D.lst (List.map D.int x))) x))) r.1)), (.lst (List.map D.int r.2.1)), (.lst (List.map D.int r.2.2.1)), (eO e_tree r.2.2.2)]
abbrev vL (l : List Int) : S := .val (.lst (List.map D.int l))
abbrev oL (l : List Int) : S := .own (.lst (List.map D.int l))
abbrev vT (l : List Int) : S := .val (.tup (List.map D.int l))
abbrev vM (l : List (List Int)) : S := .val (.lst (List.map (fun x => (D.lst (List.map D.int x))) l))
abbrev vI (i : Int) : S := .val (.int i)
structure T_Tree where
 rows : QT
 length : Int
def e_Tree (b : T_Tree) : D := .obj "Tree" ["rows", "length"] [(e_tree b.rows), (.int b.length)]
theorem fld_Tree_rows (b : T_Tree) : fldO ["Tree"] "rows" (e_Tree b) = some (e_tree b.rows) := by
 unfold e_Tree
 show (if (("Tree" : Str) ∈ (["Tree"] : List Str)) then lkF "rows" _ _ else none) = _
 rw [if_pos (by decide +kernel)]; rfl
theorem fld_Tree_length (b : T_Tree) : fldO ["Tree"] "length" (e_Tree b) = some (.int b.length) := by
 unfold e_Tree
 show (if (("Tree" : Str) ∈ (["Tree"] : List Str)) then lkF "length" _ _ else none) = _
 rw [if_pos (by decide +kernel)]; rfl
theorem isObj_Tree (b : T_Tree) : isObj "Tree" (e_Tree b) = true := by unfold e_Tree isObj; exact decide_eq_true rfl
theorem is_o_Tree (o : Option T_Tree) : dIsN (eO e_Tree o) .non = some (.val (.bl o.isNone)) := by cases o <;> rfl
theorem isn_o_Tree (o : Option T_Tree) : dNotN (eO e_Tree o) .non = some (.val (.bl (!o.isNone))) := by cases o <;> rfl
theorem sca_Tree (b : T_Tree) : scaD (e_Tree b) = false := rfl
theorem sne_Tree_rows_length : (("rows" : Str) = ("length" : Str)) = False := eq_false (by decide +kernel)
theorem sne_Tree_length_rows : (("length" : Str) = ("rows" : Str)) = False := eq_false (by decide +kernel)
local macro_rules | `(tactic| simp? only [$as,*] $[$lo]?) => `(tactic| simp only [Tl.ob_some, Tl.ob_none, Tl.ob_assoc, Tl.om_eq, Tl.ob_ite, Tl.gz_small, Tl.gb_true, Tl.tt_true, Tl.ft_false, Tl.ite_T, Tl.ite_F, Tl.ite_fun, Tl.b_not_t, Tl.b_not_f, Tl.b_at, Tl.b_af, Tl.b_ot, Tl.b_of, Tl.b_ta, Tl.b_fa, Tl.g_zero, Tl.g_succ, Tl.s_zero, Tl.s_succ, Tl.gd_zero, Tl.gd_succ, Tl.a_cons, Tl.a_nil, Tl.a_nil2, Tl.m_cons, Tl.m_nil, Tl.m_app, Tl.m_map, Tl.m_idf, Tl.l_cons, Tl.l_nil, Tl.l_map, Tl.l_app, Tl.e_map, Tl.e_cons, Tl.e_nil, Tl.r_zero, Tl.r_succ, Tl.tl_cons, Tl.tl_nil, Tl.any_cons', Tl.any_nil', Tl.all_cons', Tl.all_nil', Tl.mem_one, Tl.eqs_self, Tl.tt_and, Tl.cps_bind, Tl.cps_pure, Tl.cps_fail, Tl.cps_ofO, Tl.cps_ite, Tl.cps_var, Tl.varK_v, Tl.varK_o, Tl.cps_C, Tl.set_v, Tl.set_o, Tl.set_a, Tl.cps_peek_v, Tl.cps_peek_o, Tl.cps_peek_a, Tl.peekK_v, Tl.peekK_o, Tl.cps_toV_v, Tl.cps_toV_o, Tl.cps_toV_a, Tl.toVK_v, Tl.toVK_o, Tl.peeks_n, Tl.peeks_c, Tl.toVs_n, Tl.toVs_c, Tl.toVs_vals, Tl.toVs_vals0, Tl.toVs_mv, Tl.toVs_mv0, Tl.cps_bin, Tl.cps_aNil, Tl.cps_aCons, Tl.it_l, Tl.it_t, Tl.cps_aStar, Tl.cps_eB, Tl.cps_tup, Tl.cps_lst, Tl.ofI_i, Tl.cps_oNo, Tl.cps_oSome, Tl.cps_sl, Tl.cps_neg, Tl.cps_tru, Tl.cps_tVal, Tl.cps_tNot, Tl.cps_tAnd, Tl.cps_tOr, Tl.cps_eNot, Tl.cps_eAnd, Tl.cps_eOr, Tl.cps_eIf, Tl.ofBl_b, Tl.cps_tCmp, Tl.cps_yes, Tl.cps_fld, Tl.cps_frz, Tl.prep_n, Tl.prep_t, Tl.prep_f, Tl.prep_z, Tl.cps_call, Tl.callO_ret, Tl.callO_ex, Tl.na_v, Tl.na_o, Tl.cps_eCall, Tl.ssOfs_n, Tl.ssOfs_c, Tl.ssOf_v, Tl.ssOf_a, Tl.ssK_v, Tl.ssK_o, Tl.dist_n, Tl.dist_v, Tl.dist_a, Tl.isAli_v, Tl.isAli_a, Tl.noAli_n, Tl.noAli_v, Tl.noAli_a, Tl.scaR_o, Tl.scaR_v, Tl.sca_n, Tl.sca_b, Tl.sca_i, Tl.sca_s, Tl.sca_l, Tl.sca_t, Tl.sca_ob, Tl.back_n, Tl.back_v, Tl.back_a, Tl.back1_eq, Tl.b1K_o, Tl.b1K_v, Tl.ownOr_o, Tl.cps_makeM, Tl.makeO_ret, Tl.makeO_ex, Tl.cps_eMake, Tl.cps_ckC, Tl.cps_ckO, Tl.cps_meth, Tl.cps_own2, Tl.cps_ownIn, Tl.ownLst_a, Tl.ownK_o, Tl.cps_append, Tl.ofL_l, Tl.cps_extend, Tl.cps_clear, Tl.cps_iSeq, Tl.cps_rng1, Tl.cps_rng2, Tl.cps_zip, Tl.cps_enu, Tl.rangeD_eq, Tl.dRng1_eq, Tl.dRng2_eq, Tl.dZip_l, Tl.dZip_t, Tl.dEnum_l, Tl.dEnum_t, Tl.sSeq_eq, Tl.sq_none, Tl.sq_nx, Tl.sq_rt, Tl.sq_ct, Tl.sq_bk, Tl.sq_ex, Tl.sq_bind, Tl.sq_ite, Tl.thenS_eq, Tl.sNil_eq, Tl.sPass_eq, Tl.sBreak_eq, Tl.sCont_eq, Tl.sNever_eq, Tl.sRetN_eq, Tl.sExpr_eq, Tl.retV_v, Tl.retV_o, Tl.retV_a, Tl.retK_v, Tl.retK_o, Tl.sRet_eq, Tl.setV_v, Tl.setV_o, Tl.setV_a, Tl.setK_v, Tl.setK_o, Tl.sSet_eq, Tl.sIf_eq, Tl.sFor_eq, Tl.asg_eq, Tl.sAsg_eq, Tl.sSetIx_eq, Tl.ownObj_a, Tl.ownObK_o, Tl.sSetF_eq, Tl.putF2_n, Tl.putF2_c, Tl.lkF_c, Tl.fldO_eq, Tl.nrm_n, Tl.nrm_k, Tl.nrm_f, Tl.frz1_o, Tl.frz1_v, Tl.frz1_n, Tl.kil_n, Tl.kil_c, Tl.sFore_eq, Tl.sAft_eq, Tl.sFz_eq, Tl.aq_bind, Tl.aq_ite, Tl.aq_none, Tl.aq_nx, Tl.aq_ct, Tl.aq_bk, Tl.aq_rt, Tl.aq_ex, Tl.sRtA_eq, Tl.rq_bind, Tl.rq_ite, Tl.rq_none, Tl.rq_rtv, Tl.rq_rto, Tl.rq_ex, Tl.gN_eq, Tl.gT_eq, Tl.gsN_eq, Tl.gsC_eq, Tl.rtn_bind, Tl.rtn_ite, Tl.rtn_none, Tl.rtn_nx, Tl.rtn_rtv, Tl.rtn_rto, Tl.rtn_ex, Tl.post_n, Tl.post_v, Tl.post_o, Tl.sq_lpO, Tl.aq_lpO, Tl.sq_k, Tl.aq_k, Tl.rq_k, Tl.rtn_k, Tl.ob_k, Tl.cfO_nx, Tl.cfO_ct, Tl.cfO_bk, Tl.cfO_rt, Tl.cps_lc, Tl.noOwn_n, Tl.noOwn_c, Tl.isOwn_o, Tl.isOwn_v, Tl.isOwn_n, Tl.wipe_n, Tl.wipe_c, Tl.back_n', Tl.back_c', Tl.add_ii, Tl.add_tt, Tl.add_ll, Tl.sub_ii, Tl.mul_ii, Tl.div_ii, Tl.mod_ii, Tl.pow_ii, Tl.lt_ii, Tl.le_ii, Tl.gt_ii, Tl.ge_ii, Tl.eO_none, Tl.eO_some, Tl.lt_io, Tl.gt_io, Tl.lt_oi, Tl.gt_oi, Tl.is_oi, Tl.isn_oi, Tl.is_ot, Tl.isn_ot, Tl.sca_oi, Tl.sca_ob', Tl.is_bb, Tl.isn_bb, Tl.is_nn, Tl.is_in, Tl.is_ln, Tl.is_tn, Tl.is_on, Tl.isn_nn, Tl.isn_in, Tl.isn_ln, Tl.isn_tn, Tl.isn_on, Tl.it_sq, Tl.eSq_t, Tl.eSq_l, Tl.len_sq, Tl.eq_ii, Tl.ne_ii, Tl.eq_bb, Tl.ne_bb, Tl.eq_li, Tl.ne_li, Tl.eq_ti, Tl.ne_ti, Tl.eq_l0, Tl.ne_l0, Tl.in_il, Tl.in_it, Tl.in_is, Tl.notIn_il, Tl.notIn_it, Tl.notIn_is, Tl.in_rl, Tl.notIn_rl, Tl.tru_n, Tl.tru_b, Tl.tru_i, Tl.tru_l, Tl.tru_t, Tl.ix_lc, Tl.ix_tc, Tl.ix_lm, Tl.ix_tm, Tl.ix_sm, Tl.ix_sc, Tl.atI_map', Tl.at0, Tl.at1, Tl.at2, Tl.at3, Tl.set_map, Tl.sl_l, Tl.sl_t, Tl.len_l, Tl.len_t, Tl.len_s, Tl.int_i, Tl.int_b, Tl.max_ii, Tl.min_ii, Tl.list_l, Tl.list_t, Tl.list_s, Tl.tuple_l, Tl.tuple_t, Tl.tuple_s, Tl.sorted_i, Tl.maxL_i, Tl.minL_i, Tl.sum_i, Tl.all_b, Tl.any_b, Tl.isi_eq, Tl.ty_n, Tl.ty_b, Tl.ty_i, Tl.ty_s, Tl.ty_l, Tl.ty_t, Tl.il_ii, Tl.il_ib, Tl.il_it, Tl.il_il, Tl.il_bb, Tl.il_bi, Tl.il_bl, Tl.il_bt, Tl.il_ll, Tl.il_lt, Tl.il_li, Tl.il_lb, Tl.il_tt, Tl.il_tl, Tl.il_ti, Tl.il_tb, Tl.il_ss, Tl.il_si, Tl.il_sb, Tl.il_ni, Tl.il_nb, Tl.il_nl, Tl.il_nt, Tl.cps_lc2, Tl.augK_v, Tl.sAug_eq, Tl.gadd_ii, Tl.gsub_ii, Tl.gmul_ii, Tl.cps_ownIx, Tl.cps_ownCall, Tl.cps_lrg, Tl.cps_iOwn, Tl.cps_lOwn, Tl.cps_lent, Tl.lentK_eq, Tl.lent_and, Tl.scaRv_i, Tl.scaRv_b, Tl.frzA_n, Tl.frzA_c, Tl.fzS_n, Tl.fzS_v, Tl.fzS_o, Tl.ownL_n, Tl.ownL_no, Tl.ownL_v, Tl.ownL_o, Tl.e_tree_fin, Tl.e_tree_ask, Tl.ix_tree0, Tl.ix_tree1, Tl.ix_tree2, Tl.len_tree, Tl.eq_tag_end, Tl.eq_tag_ask, Tl.ne_tag_end, Tl.ne_tag_ask, Tl.so_t, Tl.so_f, Tl.ite_same, Tl.cps_un, Tl.l1_o, Tl.cps_aTmpR, Tl.cps_aTmp, Tl.cps_aConsT, Tl.tkK_v, Tl.tkK_o, Tl.tk_z, Tl.tk_s, Tl.cps_callT, Tl.cps_eCallT, Tl.cps_eCallK, Tl.cps_dix, Tl.il_ns, Tl.il_bs, Tl.il_is, Tl.il_ls, Tl.il_ts, Tl.il_sl, Tl.il_st, Tl.sMatch_eq, Tl.setD_n, Tl.setD_c, Tl.kNil_eq, Tl.cps_aTmp2R, Tl.cps_aTmp2, Tl.cps_aConsT2, Tl.cps_callT2, Tl.cps_eCallT2, Tl.ofTp_t, Tl.cps_extendT, Tl.any_bm, Tl.all_bm, Tl.is_otree, Tl.isn_otree, Tl.ne_lt0, Tl.eq_ll0, Tl.int_o, Tl.ge_oi, Tl.le_oi, Tl.lpO_E, Tl.keyO_T, Tl.inN_f, Tl.getN_f, Tl.putN_f, Tl.cps_dicN, Tl.cps_getN, Tl.eInN_eq, Tl.ownNdi_a, Tl.ownNK_n, Tl.sSetN_eq, Tl.l1N_o, Tl.cps_aTmpRN, Tl.cps_aTmpN, Tl.cps_aConsTN, Tl.cps_callTN, Tl.cps_eCallTN, Tl.inN_i, Tl.getN_i, Tl.putN_i, Tl.inN_b, Tl.notInN_b, Tl.putN_b, Tl.inN_k, Tl.getN_k, Tl.dicOne_b, Tl.cps_dic1, Tl.eNotInN_eq, Tl.or_tt, Tl.oRv_n, Tl.oRv_s, Tl.oRv_na, Tl.rtn_oo, Tl.oRv_toV, Tl.is_ol, Tl.isn_ol, Tl.eq_rn, Tl.cps_eDcN, Tl.eq_l0t, Tl.ne_l0t, Tl.cps_eCallD, Tl.gt_oo, Tl.unO_i, Tl.ty_tree, Tl.glen_tree, Tl.eq_ll0g, Tl.or_f0, Tl.cast_2, Tl.cast_3, Tl.intD_i, Tl.popT_map, Tl.insT_map, Tl.index_i, Tl.isLst_l, Tl.in_ll, Tl.notIn_ll, Tl.cps_popAt, Tl.cps_insK, Tl.cps_insA, Tl.cps_insert, Tl.cps_ckLv, Tl.cps_index, Tl.le_oo, Tl.cps_prop, Tl.nx_eq, Tl.nxO_ret, Tl.cps_eMakeK, Tl.fillR_n, Tl.fillR_d, Tl.fillR_0, Tl.fillR_1, Tl.sAugF_eq, Tl.intOf_i, Tl.le_io, Tl.ge_io, Tl.sRaise_eq, Tl.sTry_eq, Tl.tryQ_bind, Tl.tryQ_ite, Tl.tryQ_none, Tl.tryQ_ex, Tl.suH_eq, Tl.e_ib_i, Tl.e_ib_b, Tl.dIn_ib, Tl.dIn2_ib, Tl.dGe_ib, Tl.dNe_ib, Tl.dNe_ib_o, Tl.sRaiseF_eq, Tl.raF_1, Tl.xfO_1, Tl.cps_xf, Tl.valO_v, Tl.suE_eq, Tl.tryQ_exF, Tl.suI_eq, Tl.sq_lpX, Tl.aq_lpX, Tl.cfX_nx, Tl.cfX_ct, Tl.cfX_bk, Tl.cfX_rt, Tl.isi_ib_bool, Tl.ty_ib_bool, Tl.add_ib, Tl.dIx_ib_t, Tl.dIx_ib_l, Tl.map_ib_i, Tl.map_ib_i2, My.fld_Tree_rows, My.fld_Tree_length, My.isObj_Tree, My.is_o_Tree, My.isn_o_Tree, My.sca_Tree, My.sne_Tree_rows_length, My.sne_Tree_length_rows, reduceIte, Nat.reduceAdd, Nat.reduceSub, Nat.reduceMul, Nat.reduceLT, Nat.reduceGT, Nat.reduceLeDiff, Nat.reduceEqDiff, Nat.reduceBEq, Nat.reduceBNe, Int.reduceNeg, Int.reduceAdd, Int.reduceSub, Int.reduceMul, Int.reduceLT, Int.reduceLE, Int.reduceGT, Int.reduceGE, Int.reduceEq, Int.reduceNe, Int.reduceBEq, Int.reduceBNe, Int.reducePow, $as,*] $[$lo]?)
theorem tstZcell_1 (script : (List Int)) (k_ : Int) {γ : Type} {kx : Xn → List S → Option γ} {k : Bool → List S → Option γ} : cps (tCmp (eLt (eVar 1) (eB gLen (aCons (eVar 0) aNil)))) [.val (.scr script), (vI k_)] kx k = k (decide (k_ < ((List.length script : Nat) : Int))) [.val (.scr script), (vI k_)] := by
 simp? only [Tl.ob_some]
theorem stZcell_1 (script : (List Int)) (k_ : Int) : (sRtA [0, 1] (sRet (eIx (eVar 0) (eVar 1)))) [.val (.scr script), (vI k_)] = (atI script k_).bind fun v1 => some (.rt (.val (.int v1)) [.no, .no]) := by
 simp? only [Tl.ob_some]
theorem stZcell_2 {s0 s1 : S}  : (sRtA [0, 1] (sRet (eC (.int 0)))) [s0, s1] = some (.rt (.val (.int (0 : Int))) [.no, .no]) := by
 simp? only [Tl.ob_some]
def tZcell (script : (List Int)) (k_ : Int) : Option (Int) := if (decide (k_ < ((List.length script : Nat) : Int))) = true then (atI script k_).bind fun v1 => some v1 else some (0 : Int)
local macro_rules | `(tactic| dsimp? only [$as,*]) => `(tactic| simp (maxSteps := 4000000) only [sSeq_eq, sq_none, sq_nx, sq_rt, sq_ct, sq_bk, sq_ex, sq_bind, sq_ite, sq_lpO, sq_k, sIf_eq, sNil_eq, sPass_eq, sBreak_eq, sCont_eq, sNever_eq, sFore_eq, sAft_eq, aq_bind, aq_ite, aq_none, aq_nx, aq_ct, aq_bk, aq_rt, aq_ex, aq_k, aq_lpO, nrm_n, nrm_k, nrm_f, frz1_o, frz1_v, frz1_n, g_zero, g_succ, s_zero, s_succ, ob_some, ob_none, ob_assoc, ob_ite, ob_k, om_eq, ite_T, ite_F, tt_true, ft_false, gN_eq, cfO_nx, cfO_ct, cfO_bk, cfO_rt, rq_none, sq_lpX, aq_lpX, cfX_nx, cfX_ct, cfX_bk, cfX_rt, $as,*])
theorem eqZcell : ∀ (script : (List Int)) (k_ : Int), FnZcell [.val (.scr script), .val (.int k_)] = (tZcell script k_).bind fun r => some (.ret (.val (.int r)) [.val (.scr script), .val (.int k_)]) := fun script k_ => by
 show mkFn _ _ _ _ = _
 rw [mkFn_eq]
 dsimp? only [fZcell, tZcell, Nat.reduceSub, Nat.reduceAdd, rtn_bind, rtn_ite, rtn_none, rtn_nx, rtn_rtv, rtn_rto, rtn_ex, rtn_k, post_n, post_v, post_o, l_cons, l_nil, r_succ, r_zero, a_cons, a_nil, tstZcell_1, stZcell_1, stZcell_2]
theorem tstZsource_1 (cell : Int) {γ : Type} {kx : Xn → List S → Option γ} {k : Bool → List S → Option γ} : cps (tCmp (eGe (eVar 0) (ePow (eC (.int 10)) (eC (.int 18))))) [(vI cell)] kx k = k (decide ((1000000000000000000 : Int) ≤ cell)) [(vI cell)] := by
 simp? only [(by decide +kernel : powOk 10 18 = true), (by decide +kernel : ((10 : Int) ^ Int.toNat 18) = 1000000000000000000)]
theorem stZsource_1 (cell : Int) : (sRtA [0] (sRet (eLst (aCons (eVar 0) (aCons (eC (.int 0)) (aCons (eVar 0) aNil)))))) [(vI cell)] = some (.rt (.own (.lst (List.map D.int [cell, (0 : Int), cell]))) [.no]) := by
 simp? only [Tl.ob_some]
theorem stZsource_2 (cell : Int) : (sRtA [0] (sRet (eLst (aCons (eC (.int 0)) (aCons (eC (.int 0)) (aCons (eVar 0) aNil)))))) [(vI cell)] = some (.rt (.own (.lst (List.map D.int [(0 : Int), (0 : Int), cell]))) [.no]) := by
 simp? only [Tl.ob_some]
def tZsource (cell : Int) : Option ((List Int)) := if (decide ((1000000000000000000 : Int) ≤ cell)) = true then some [cell, (0 : Int), cell] else some [(0 : Int), (0 : Int), cell]
theorem eqZsource : ∀ (cell : Int), FnZsource [.val (.int cell)] = (tZsource cell).bind fun r => some (.ret (.own (.lst (List.map D.int r))) [.val (.int cell)]) := fun cell => by
 show mkFn _ _ _ _ = _
 rw [mkFn_eq]
 dsimp? only [fZsource, tZsource, Nat.reduceSub, Nat.reduceAdd, rtn_bind, rtn_ite, rtn_none, rtn_nx, rtn_rtv, rtn_rto, rtn_ex, rtn_k, post_n, post_v, post_o, l_cons, l_nil, r_succ, r_zero, a_cons, a_nil, tstZsource_1, stZsource_1, stZsource_2]
theorem stZdraw_1 {s1 s2 s3 : S} (source : (List Int)) : (sSetIx (eAdd (eIx (eVar 0) (eC (.int 1))) (eC (.int 1))) (eVar 0) (eC (.int 1))) [(oL source), s1, s2, s3] = (atI source (1 : Int)).bind fun v1 => (setT source (1 : Int) (v1 + (1 : Int))).bind fun v2 => some (.nx [(oL v2), s1, s2, s3]) := by
 simp? only [setT]
theorem tstZdraw_1 {s1 s2 s3 : S} (source : (List Int)) {γ : Type} {kx : Xn → List S → Option γ} {k : Bool → List S → Option γ} : cps (tCmp (eGt (eIx (eVar 0) (eC (.int 0))) (eC (.int 0)))) [(oL source), s1, s2, s3] kx k = (atI source (0 : Int)).bind fun v3 => k (decide ((0 : Int) < v3)) [(oL source), s1, s2, s3] := by
 simp? only [Tl.ob_some]
theorem stZdraw_2 {s2 : S} (source : (List Int)) (limit : Int) : (sSet 2 3 (eMod (eB gInt (aCons (eIx (eVar 0) (eC (.int 0))) aNil)) (eVar 1))) [(oL source), (vI limit), s2, .no] = (atI source (0 : Int)).bind fun v4 => (gb (modOk v4 limit)).bind fun _ => some (.nx [(oL source), (vI limit), s2, .val (.int (v4 % limit))]) := by
 simp? only [Tl.ob_some]
theorem stZdraw_3 {s2 s3 : S} (source : (List Int)) (limit : Int) : (sSetIx (eDiv (eIx (eVar 0) (eC (.int 0))) (eVar 1)) (eVar 0) (eC (.int 0))) [(oL source), (vI limit), s2, s3] = (atI source (0 : Int)).bind fun v5 => (gb (divOk v5 limit)).bind fun _ => (setT source (0 : Int) (v5 / limit)).bind fun v6 => some (.nx [(oL v6), (vI limit), s2, s3]) := by
 simp? only [setT]
theorem stZdraw_4 {s1 s2 : S} (source : (List Int)) (digit : Int) : (sRtA [1, 2, 3] (sRet (eVar 3))) [(oL source), s1, s2, (vI digit)] = some (.rt (.val (.int digit)) [(oL source), .no, .no, .no]) := by
 simp? only [Tl.ob_some]
theorem stZdraw_5 {s1 s3 : S} (source : (List Int)) : (sSet 2 2 (eMod (eB gInt (aCons (eAdd (eMul (eIx (eVar 0) (eC (.int 2))) (eC (.int 48271))) (eMul (eIx (eVar 0) (eC (.int 1))) (eC (.int 69621)))) aNil)) (eC (.int 2147483647)))) [(oL source), s1, .no, s3] = (atI source (2 : Int)).bind fun v7 => (atI source (1 : Int)).bind fun v8 => some (.nx [(oL source), s1, .val (.int (((v7 * (48271 : Int)) + (v8 * (69621 : Int))) % (2147483647 : Int))), s3]) := by
 simp? only [(fun i => mulOk_r (by decide) : ∀ i, mulOk i 48271 = true), (fun i => mulOk_r (by decide) : ∀ i, mulOk i 69621 = true), (fun i => modOk_l (by decide) : ∀ i, modOk i 2147483647 = true)]
theorem stZdraw_6 {s1 s3 : S} (source : (List Int)) (mixed : Int) : (sSet 2 2 (eMod (eB gInt (aCons (eAdd (eAdd (eMul (eVar 2) (eVar 2)) (eMul (eIx (eVar 0) (eC (.int 1))) (eC (.int 40692)))) (eC (.int 7))) aNil)) (eC (.int 2147483629)))) [(oL source), s1, (vI mixed), s3] = (gb (mulOk mixed mixed)).bind fun _ => (atI source (1 : Int)).bind fun v9 => some (.nx [(oL source), s1, .val (.int ((((mixed * mixed) + (v9 * (40692 : Int))) + (7 : Int)) % (2147483629 : Int))), s3]) := by
 simp? only [(fun i => mulOk_r (by decide) : ∀ i, mulOk i 40692 = true), (fun i => modOk_l (by decide) : ∀ i, modOk i 2147483629 = true)]
theorem stZdraw_7 {s3 : S} (source : (List Int)) (limit : Int) (mixed : Int) : (sRtA [1, 2, 3] (sRet (eMod (eB gInt (aCons (eAdd (eDiv (eVar 2) (eC (.int 8))) (eMul (eVar 2) (eC (.int 10000019)))) aNil)) (eVar 1)))) [(oL source), (vI limit), (vI mixed), s3] = (gb (modOk ((mixed / (8 : Int)) + (mixed * (10000019 : Int))) limit)).bind fun _ => some (.rt (.val (.int (((mixed / (8 : Int)) + (mixed * (10000019 : Int))) % limit))) [(oL source), .no, .no, .no]) := by
 simp? only [(fun i => divOk_l (by decide) : ∀ i, divOk i 8 = true), (fun i => mulOk_r (by decide) : ∀ i, mulOk i 10000019 = true)]
def tZdraw (source : (List Int)) (limit : Int) : Option (Int × (List Int)) := (atI source (1 : Int)).bind fun v1 => (setT source (1 : Int) (v1 + (1 : Int))).bind fun v2 => let source := v2; (atI source (0 : Int)).bind fun v3 => if (decide ((0 : Int) < v3)) = true then (atI source (0 : Int)).bind fun v4 => (gb (modOk v4 limit)).bind fun _ => let digit := (v4 % limit); (atI source (0 : Int)).bind fun v5 => (gb (divOk v5 limit)).bind fun _ => (setT source (0 : Int) (v5 / limit)).bind fun v6 => let source := v6; some (digit, source) else (atI source (2 : Int)).bind fun v7 => (atI source (1 : Int)).bind fun v8 => let mixed := (((v7 * (48271 : Int)) + (v8 * (69621 : Int))) % (2147483647 : Int)); (gb (mulOk mixed mixed)).bind fun _ => (atI source (1 : Int)).bind fun v9 => let mixed := ((((mixed * mixed) + (v9 * (40692 : Int))) + (7 : Int)) % (2147483629 : Int)); (gb (modOk ((mixed / (8 : Int)) + (mixed * (10000019 : Int))) limit)).bind fun _ => some ((((mixed / (8 : Int)) + (mixed * (10000019 : Int))) % limit), source)
theorem eqZdraw : ∀ (source : (List Int)) (limit : Int), FnZdraw [.own (.lst (List.map D.int source)), .val (.int limit)] = (tZdraw source limit).bind fun r => some (.ret (.val (.int r.1)) [.own (.lst (List.map D.int r.2)), .val (.int limit)]) := fun source limit => by
 show mkFn _ _ _ _ = _
 rw [mkFn_eq]
 dsimp? only [fZdraw, tZdraw, Nat.reduceSub, Nat.reduceAdd, rtn_bind, rtn_ite, rtn_none, rtn_nx, rtn_rtv, rtn_rto, rtn_ex, rtn_k, post_n, post_v, post_o, l_cons, l_nil, r_succ, r_zero, a_cons, a_nil, stZdraw_1, tstZdraw_1, stZdraw_2, stZdraw_3, stZdraw_4, stZdraw_5, stZdraw_6, stZdraw_7]
theorem stZsizes_1 {s1 s3 s5 s6 s7 s8 s9 : S} (source : (List Int)) (standings : Int) : (sSet 4 4 (eB gMin2 (aCons (eB gInt (aCons (eVar 2) aNil)) (aCons (eIx (eLst (aCons (eC (.int 2)) (aCons (eC (.int 3)) (aCons (eC (.int 4)) (aCons (eC (.int 6)) aNil))))) (eCall [true, false] FnZdraw (aCons (eVar 0) (aCons (eC (.int 4)) aNil)))) aNil)))) [(oL source), s1, (vI standings), s3, .no, s5, s6, s7, s8, s9] = (tZdraw source (4 : Int)).bind fun v1 => (atI [(2 : Int), (3 : Int), (4 : Int), (6 : Int)] v1.1).bind fun v2 => some (.nx [(oL v1.2), s1, (vI standings), s3, .val (.int (if v2 < standings then v2 else standings)), s5, s6, s7, s8, s9]) := by
 have lf : ∀ (a0 a1 a2 a3 : Int) (i : Int), atI [(D.int a0), (D.int a1), (D.int a2), (D.int a3)] i = (atI [a0, a1, a2, a3] i).bind fun a => some (D.int a) := fun a0 a1 a2 a3 i => atI_map' D.int [a0, a1, a2, a3] i
 simp? only [eqZdraw, lf]
theorem stZsizes_2 {s0 s1 s2 s3 s4 s6 s7 s8 s9 : S}  : (sSet 4 5 (eLst aNil)) [s0, s1, s2, s3, s4, .no, s6, s7, s8, s9] = some (.nx [s0, s1, s2, s3, s4, .own (.lst (List.map D.int ([] : List Int))), s6, s7, s8, s9]) := by
 simp? only [Tl.ob_some]
theorem stZsizes_3 {s0 s1 s2 s3 s4 s5 s7 s8 s9 : S}  : (sSet 4 6 (eC (.int 1))) [s0, s1, s2, s3, s4, s5, .no, s7, s8, s9] = some (.nx [s0, s1, s2, s3, s4, s5, .val (.int (1 : Int)), s7, s8, s9]) := by
 simp? only [Tl.ob_some]
theorem stZsizes_4 {s1 s2 s3 s5 s6 s7 s8 : S} (source : (List Int)) (top : Int) : (sSet 4 9 (eAdd (eC (.int 1)) (eCall [true, false] FnZdraw (aCons (eVar 0) (aCons (eVar 4) aNil))))) [(oL source), s1, s2, s3, (vI top), s5, s6, s7, s8, .no] = (tZdraw source top).bind fun v5 => some (.nx [(oL v5.2), s1, s2, s3, (vI top), s5, s6, s7, s8, .val (.int ((1 : Int) + v5.1))]) := by
 simp? only [eqZdraw]
theorem tstZsizes_1 {s0 s1 s2 s4 s5 s7 s8 : S} (cap : Int) (many : Int) (size : Int) {γ : Type} {kx : Xn → List S → Option γ} {k : Bool → List S → Option γ} : cps (tCmp (eGt (eMul (eVar 6) (eVar 9)) (eVar 3))) [s0, s1, s2, (vI cap), s4, s5, (vI many), s7, s8, (vI size)] kx k = (gb (mulOk many size)).bind fun _ => k (decide (cap < (many * size))) [s0, s1, s2, (vI cap), s4, s5, (vI many), s7, s8, (vI size)] := by
 simp? only [Tl.ob_some]
theorem stZsizes_5 {s0 s1 s2 s3 s4 s5 s6 s7 s8 : S} (size : Int) : (sSet 4 9 (eC (.int 1))) [s0, s1, s2, s3, s4, s5, s6, s7, s8, (vI size)] = some (.nx [s0, s1, s2, s3, s4, s5, s6, s7, s8, .val (.int (1 : Int))]) := by
 simp? only [Tl.ob_some]
theorem ilZsizes_1 {s0 s1 s2 s4 s5 s7 s8 : S} (cap : Int) (many : Int) (size : Int) : iZsizes_1 [s0, s1, s2, (vI cap), s4, s5, (vI many), s7, s8, (vI size)] = ((gb (mulOk many size)).bind fun _ => if (decide (cap < (many * size))) = true then let size := (1 : Int); some (size) else some (size)).bind fun v6 => some (.nx [s0, s1, s2, (vI cap), s4, s5, (vI many), s7, s8, (vI v6)]) := by
 dsimp? only [iZsizes_1, tstZsizes_1, stZsizes_5]
theorem stZsizes_6 {s0 s1 s2 s3 s4 s5 s7 s8 : S} (many : Int) (size : Int) : (sSet 4 6 (eMul (eVar 6) (eVar 9))) [s0, s1, s2, s3, s4, s5, (vI many), s7, s8, (vI size)] = (gb (mulOk many size)).bind fun _ => some (.nx [s0, s1, s2, s3, s4, s5, .val (.int (many * size)), s7, s8, (vI size)]) := by
 simp? only [Tl.ob_some]
theorem stZsizes_7 {s0 s1 s2 s3 s4 s6 s7 s8 : S} (sizes : (List Int)) (size : Int) : (sExpr (mAppend (eVar 5) (eVar 9))) [s0, s1, s2, s3, s4, (oL sizes), s6, s7, s8, (vI size)] = (gz (List.length sizes + 1)).bind fun _ => some (.nx [s0, s1, s2, s3, s4, .own (.lst (List.map D.int (sizes ++ [size]))), s6, s7, s8, (vI size)]) := by
 simp? only [Tl.ob_some]
def tbZsizes_1 (cap : Int) (top : Int) (it : Int) (env : ((List Int) × (List Int) × Int)) : Option ((List Int) × (List Int) × Int) := let k_ := it; let source := env.1; let sizes := env.2.1; let many := env.2.2; (tZdraw source top).bind fun v5 => let source_n := v5.2; let size_n := ((1 : Int) + v5.1); let source := source_n; let size := size_n; ((gb (mulOk many size)).bind fun _ => if (decide (cap < (many * size))) = true then let size := (1 : Int); some (size) else some (size)).bind fun v6 => let size := v6; (gb (mulOk many size)).bind fun _ => let many := (many * size); (gz (List.length sizes + 1)).bind fun _ => let sizes := (sizes ++ [size]); some (source, sizes, many)
theorem blZsizes_1 {s1 s2 s8 : S} (cap : Int) (top : Int) (it : Int) (env : ((List Int) × (List Int) × Int)) : ((gN 7) (.int it) [(oL env.1), s1, s2, (vI cap), (vI top), (oL env.2.1), (vI env.2.2), .no, s8, .no]).bind (bZsizes_1 FnZdraw) = ((tbZsizes_1 cap top) it env).bind fun o => some (.nx [(oL o.1), s1, s2, (vI cap), (vI top), (oL o.2.1), (vI o.2.2), .no, s8, .no]) := by
 dsimp? only [bZsizes_1, tbZsizes_1, gT_eq, gsN_eq, gsC_eq, l_cons, l_nil, stZsizes_4, ilZsizes_1, stZsizes_6, stZsizes_7]
theorem llZsizes_1 {s2 s8 : S} (source : (List Int)) (parties : Int) (cap : Int) (top : Int) (sizes : (List Int)) (many : Int) : (lZsizes_1 FnZdraw) [(oL source), (vI parties), s2, (vI cap), (vI top), (oL sizes), (vI many), .no, s8, .no] = (tZdraw source parties).bind fun v3 => (rngT ((1 : Int) + v3.1)).bind fun v4 => (foldT (tbZsizes_1 cap top) v4 (v3.2, sizes, many)).bind fun o => some (.nx [(oL o.1), (vI parties), s2, (vI cap), (vI top), (oL o.2.1), (vI o.2.2), .no, s8, .no]) := by
 have hh := fun (cap : Int) (top : Int) (xs : List Int) (env : ((List Int) × (List Int) × Int)) => forL_fold (e := D.int) (st := fun (env : ((List Int) × (List Int) × Int)) => [.own (.lst (List.map D.int env.1)), .val (.int parties), s2, .val (.int cap), .val (.int top), .own (.lst (List.map D.int env.2.1)), .val (.int env.2.2), .no, s8, .no]) (tg := (gN 7)) (body := (bZsizes_1 FnZdraw)) (tb := (tbZsizes_1 cap top)) xs env (fun x _ env => blZsizes_1 cap top x env)
 have hh := fun (cap : Int) (top : Int) (source : (List Int)) (sizes : (List Int)) (many : Int) (xs : List Int) => hh cap top xs (source, sizes, many)
 simp? only [lZsizes_1, sFor_eq, eqZdraw] at hh ⊢
 simp? only [hh]
theorem stZsizes_8 {s1 s2 s3 s4 s6 s7 s9 : S} (source : (List Int)) (sizes : (List Int)) : (sSet 4 8 (eCall [true, false] FnZdraw (aCons (eVar 0) (aCons (eB gLen (aCons (eVar 5) aNil)) aNil)))) [(oL source), s1, s2, s3, s4, (oL sizes), s6, s7, .no, s9] = (tZdraw source ((List.length sizes : Nat) : Int)).bind fun v8 => some (.nx [(oL v8.2), s1, s2, s3, s4, (oL sizes), s6, s7, (vI v8.1), s9]) := by
 simp? only [eqZdraw]
theorem stZsizes_9 {s1 s2 s3 s4 s6 s7 s9 : S} (source : (List Int)) (sizes : (List Int)) (turn : Int) : (sRtA [1, 2, 3, 4, 5, 6, 7, 8, 9] (sRet (eAdd (eSl (eVar 5) (oSome (eVar 8)) oNo) (eSl (eVar 5) oNo (oSome (eVar 8)))))) [(oL source), s1, s2, s3, s4, (oL sizes), s6, s7, (vI turn), s9] = (gz (List.length (cutD sizes (some turn) none) + List.length (cutD sizes none (some turn)))).bind fun _ => some (.rt (.own (.lst (List.map D.int ((cutD sizes (some turn) none) ++ (cutD sizes none (some turn)))))) [(oL source), .no, .no, .no, .no, .no, .no, .no, .no, .no]) := by
 simp? only [Tl.ob_some]
def tZsizes (source : (List Int)) (parties : Int) (standings : Int) (cap : Int) : Option ((List Int) × (List Int)) := (tZdraw source (4 : Int)).bind fun v1 => (atI [(2 : Int), (3 : Int), (4 : Int), (6 : Int)] v1.1).bind fun v2 => let source_n := v1.2; let top_n := (if v2 < standings then v2 else standings); let source := source_n; let top := top_n; let sizes := ([] : List Int); let many := (1 : Int); (tZdraw source parties).bind fun v3 => (rngT ((1 : Int) + v3.1)).bind fun v4 => (foldT (tbZsizes_1 cap top) v4 (v3.2, sizes, many)).bind fun v7 => let source := v7.1; let sizes := v7.2.1; let many := v7.2.2; (tZdraw source ((List.length sizes : Nat) : Int)).bind fun v8 => let source_n := v8.2; let turn_n := v8.1; let source := source_n; let turn := turn_n; (gz (List.length (cutD sizes (some turn) none) + List.length (cutD sizes none (some turn)))).bind fun _ => some (((cutD sizes (some turn) none) ++ (cutD sizes none (some turn))), source)
theorem eqZsizes : ∀ (source : (List Int)) (parties : Int) (standings : Int) (cap : Int), FnZsizes [.own (.lst (List.map D.int source)), .val (.int parties), .val (.int standings), .val (.int cap)] = (tZsizes source parties standings cap).bind fun r => some (.ret (.own (.lst (List.map D.int r.1))) [.own (.lst (List.map D.int r.2)), .val (.int parties), .val (.int standings), .val (.int cap)]) := fun source parties standings cap => by
 show mkFn _ _ _ _ = _
 rw [mkFn_eq]
 dsimp? only [fZsizes, tZsizes, Nat.reduceSub, Nat.reduceAdd, rtn_bind, rtn_ite, rtn_none, rtn_nx, rtn_rtv, rtn_rto, rtn_ex, rtn_k, post_n, post_v, post_o, l_cons, l_nil, r_succ, r_zero, a_cons, a_nil, stZsizes_1, stZsizes_2, stZsizes_3, llZsizes_1, stZsizes_8, stZsizes_9]
def fcZfull_1 (sizes : (List Int)) (v1 : Int) : Option (List Int) := (rngT v1).bind fun v2 => some v2
theorem lcsZfull_1 (sizes : (List Int)) (v1 : Int) : lcS (gN 1) tYes' (eLRg (eVar 1)) [1] (.int v1) [(vL sizes), .no] = ((fcZfull_1 sizes) v1).bind fun y => some (some (D.lst (mI y)), [(vL sizes), .no]) := by
 simp? only [lcS, fcZfull_1]
theorem lcZfull_1 (sizes : (List Int)) {γ : Type} {kx : Xn → List S → Option γ} {k : Rv → List S → Option γ} : cps cZfull_1 [(vL sizes), .no] kx k = (mapT (fcZfull_1 sizes) sizes).bind fun v3 => k (.own (.lst (mL v3))) [(vL sizes), .no] := by
 have hh := fun {γ : Type} {kx : Xn → List S → Option γ} (sizes : (List Int)) (xs : List Int) (h' : List D → List S → Option γ) => cps_lcT (e := D.int) (e' := (fun x => (D.lst (List.map D.int x)))) (ρ := [.val (.lst (List.map D.int sizes)), .no]) (kx := kx) (f := (fcZfull_1 sizes)) xs (lcsZfull_1 sizes) h'
 simp? only [cZfull_1, hh]
theorem stZfull_1 (sizes : (List Int)) : (sRtA [0, 1] (sRet cZfull_1)) [(vL sizes), .no] = (mapT (fcZfull_1 sizes) sizes).bind fun v3 => some (.rt (.own (.lst (mL v3))) [.no, .no]) := by
 simp? only [lcZfull_1]
def tZfull (sizes : (List Int)) : Option ((List (List Int))) := (mapT (fcZfull_1 sizes) sizes).bind fun v3 => some v3
theorem eqZfull : ∀ (sizes : (List Int)), FnZfull [.val (.lst (List.map D.int sizes))] = (tZfull sizes).bind fun r => some (.ret (.own (.lst (List.map (fun x => (D.lst (List.map D.int x))) r))) [.val (.lst (List.map D.int sizes))]) := fun sizes => by
 show mkFn _ _ _ _ = _
 rw [mkFn_eq]
 dsimp? only [fZfull, tZfull, Nat.reduceSub, Nat.reduceAdd, rtn_bind, rtn_ite, rtn_none, rtn_nx, rtn_rtv, rtn_rto, rtn_ex, rtn_k, post_n, post_v, post_o, l_cons, l_nil, r_succ, r_zero, a_cons, a_nil, stZfull_1]
def fcZsplit_1 (side : (List Int)) : Int → ((List Int)) → Option (Int × ((List Int))) := fun (v1 : Int) (env : ((List Int))) => let source := env; (tZdraw source (3 : Int)).bind fun v2 => some (v2.1, v2.2)
theorem lcsZsplit_1 {s2 s3 s4 s5 s6 s8 : S} (side : (List Int)) (v1 : Int) (env : ((List Int))) : lcS (gN 7) tYes' (eCall [true, false] FnZdraw (aCons (eVar 1) (aCons (eC (.int 3)) aNil))) [7] (.int v1) [(vL side), (oL env), s2, s3, s4, s5, s6, .no, s8] = ((fcZsplit_1 side) v1 env).bind fun y => some (some (D.int y.1), [(vL side), (oL y.2), s2, s3, s4, s5, s6, .no, s8]) := by
 simp? only [lcS, fcZsplit_1, eqZdraw]
theorem lcZsplit_1 {s2 s3 s4 s5 s6 s8 : S} (side : (List Int)) (source : (List Int)) {γ : Type} {kx : Xn → List S → Option γ} {k : Rv → List S → Option γ} : cps (cZsplit_1 FnZdraw) [(vL side), (oL source), s2, s3, s4, s5, s6, .no, s8] kx k = (mapE (fcZsplit_1 side) side source).bind fun v3 => k (.own (.lst (mI v3.1))) [(vL side), (oL v3.2), s2, s3, s4, s5, s6, .no, s8] := by
 have hh := fun {γ : Type} {kx : Xn → List S → Option γ} (side : (List Int)) (xs : List Int) (env : ((List Int))) (h' : List D → List S → Option γ) => cps_lcE (e := D.int) (e' := D.int) (st := fun (env : ((List Int))) => [.val (.lst (List.map D.int side)), .own (.lst (List.map D.int env)), s2, s3, s4, s5, s6, .no, s8]) (kx := kx) (f := (fcZsplit_1 side)) xs env (lcsZsplit_1 side) h'
 have hh := fun {γ : Type} {kx : Xn → List S → Option γ} (side : (List Int)) (source : (List Int)) (xs : List Int) h' => hh (γ := γ) (kx := kx) side xs source h'
 simp? only [cZsplit_1, hh]
theorem stZsplit_1 {s3 s4 s5 s6 s8 : S} (side : (List Int)) (source : (List Int)) : (sSet 2 2 (cZsplit_1 FnZdraw)) [(vL side), (oL source), .no, s3, s4, s5, s6, .no, s8] = (mapE (fcZsplit_1 side) side source).bind fun v3 => some (.nx [(vL side), (oL v3.2), (oL v3.1), s3, s4, s5, s6, .no, s8]) := by
 simp? only [lcZsplit_1]
def fcZsplit_2 (marks : (List Int)) (v4 : Int) : Option (Option Int) := (atI marks (0 : Int)).bind fun v5 => if (decide (v4 = v5)) = true then some (some v4) else some none
theorem lcsZsplit_2 {s0 s1 s3 s5 s6 s7 s8 : S} (marks : (List Int)) (v4 : Int) : lcS (gN 4) (tCmp (eEq (eVar 4) (eIx (eVar 2) (eC (.int 0))))) (eVar 4) [4] (.int v4) [s0, s1, (vL marks), s3, .no, s5, s6, s7, s8] = ((fcZsplit_2 marks) v4).bind fun y => some (y.map D.int, [s0, s1, (vL marks), s3, .no, s5, s6, s7, s8]) := by
 simp? only [lcS, fcZsplit_2, Option.map_some, Option.map_none]
theorem lcZsplit_2 {s0 s1 s3 s5 s6 s7 s8 : S} (marks : (List Int)) {γ : Type} {kx : Xn → List S → Option γ} {k : Rv → List S → Option γ} : cps cZsplit_2 [s0, s1, (vL marks), s3, .no, s5, s6, s7, s8] kx k = (mapF (fcZsplit_2 marks) marks).bind fun v6 => k (.own (.lst (mI v6))) [s0, s1, (vL marks), s3, .no, s5, s6, s7, s8] := by
 have hh := fun {γ : Type} {kx : Xn → List S → Option γ} (marks : (List Int)) (xs : List Int) (h' : List D → List S → Option γ) => cps_lcF (e := D.int) (e' := D.int) (ρ := [s0, s1, .val (.lst (List.map D.int marks)), s3, .no, s5, s6, s7, s8]) (kx := kx) (f := (fcZsplit_2 marks)) xs (lcsZsplit_2 marks) h'
 simp? only [cZsplit_2, hh]
theorem tstZsplit_1 (side : (List Int)) (source : (List Int)) (marks : (List Int)) {γ : Type} {kx : Xn → List S → Option γ} {k : Bool → List S → Option γ} : cps (lent (fun _ => true) (tCmp (eEq (eB gLen (aCons cZsplit_2 aNil)) (eB gLen (aCons (eVar 2) aNil))))) [(vL side), (oL source), (oL marks), .no, .no, .no, .no, .no, .no] kx k = (mapF (fcZsplit_2 marks) marks).bind fun v6 => k (decide (((List.length v6 : Nat) : Int) = ((List.length marks : Nat) : Int))) [(vL side), (oL source), (oL marks), .no, .no, .no, .no, .no, .no] := by
 simp? only [lcZsplit_2]
theorem stZsplit_2 {s0 s3 s4 s6 s7 s8 : S} (source : (List Int)) (marks : (List Int)) : (sSet 2 5 (eCall [true, false] FnZdraw (aCons (eVar 1) (aCons (eB gLen (aCons (eVar 2) aNil)) aNil)))) [s0, (oL source), (oL marks), s3, s4, .no, s6, s7, s8] = (tZdraw source ((List.length marks : Nat) : Int)).bind fun v7 => some (.nx [s0, (oL v7.2), (oL marks), s3, s4, (vI v7.1), s6, s7, s8]) := by
 simp? only [eqZdraw]
theorem stZsplit_3 {s0 s1 s3 s4 s6 s7 s8 : S} (marks : (List Int)) (odd : Int) : (sSetIx (eAdd (eIx (eVar 2) (eVar 5)) (eC (.int 1))) (eVar 2) (eVar 5)) [s0, s1, (oL marks), s3, s4, (vI odd), s6, s7, s8] = (atI marks odd).bind fun v8 => (setT marks odd (v8 + (1 : Int))).bind fun v9 => some (.nx [s0, s1, (oL v9), s3, s4, (vI odd), s6, s7, s8]) := by
 simp? only [setT]
theorem ilZsplit_1 (side : (List Int)) (source : (List Int)) (marks : (List Int)) : (iZsplit_1 FnZdraw) [(vL side), (oL source), (oL marks), .no, .no, .no, .no, .no, .no] = ((mapF (fcZsplit_2 marks) marks).bind fun v6 => if (decide (((List.length v6 : Nat) : Int) = ((List.length marks : Nat) : Int))) = true then (tZdraw source ((List.length marks : Nat) : Int)).bind fun v7 => let source_n := v7.2; let odd_n := v7.1; let source := source_n; let odd := odd_n; (atI marks odd).bind fun v8 => (setT marks odd (v8 + (1 : Int))).bind fun v9 => let marks := v9; some (source, marks) else some (source, marks)).bind fun v10 => some (.nx [(vL side), (oL v10.1), (oL v10.2), .no, .no, .no, .no, .no, .no]) := by
 dsimp? only [iZsplit_1, tstZsplit_1, stZsplit_2, stZsplit_3]
theorem stZsplit_4 {s0 s1 s2 s4 s5 s6 s7 s8 : S}  : (sSet 2 3 (eLst aNil)) [s0, s1, s2, .no, s4, s5, s6, s7, s8] = some (.nx [s0, s1, s2, .own (.lst (List.map (fun x => (D.lst (mI x))) ([] : List (List Int)))), s4, s5, s6, s7, s8]) := by
 simp? only [Tl.ob_some]
def fcZsplit_3 (side : (List Int)) (marks : (List Int)) (mark : Int) (v13 : Int) : Option (Option Int) := (atI marks v13).bind fun v14 => if (decide (v14 = mark)) = true then (atI side v13).bind fun v15 => some (some v15) else some none
theorem lcsZsplit_3 {s1 s3 s5 s6 s7 : S} (side : (List Int)) (marks : (List Int)) (mark : Int) (v13 : Int) : lcS (gN 8) (tCmp (eEq (eIx (eVar 2) (eVar 8)) (eVar 4))) (eIx (eVar 0) (eVar 8)) [8] (.int v13) [(vL side), s1, (oL marks), s3, (vI mark), s5, s6, s7, .no] = ((fcZsplit_3 side marks mark) v13).bind fun y => some (y.map D.int, [(vL side), s1, (oL marks), s3, (vI mark), s5, s6, s7, .no]) := by
 simp? only [lcS, fcZsplit_3, Option.map_some, Option.map_none]
theorem lcZsplit_3 {s1 s3 s5 s6 s7 : S} (side : (List Int)) (marks : (List Int)) (mark : Int) {γ : Type} {kx : Xn → List S → Option γ} {k : Rv → List S → Option γ} : cps cZsplit_3 [(vL side), s1, (oL marks), s3, (vI mark), s5, s6, s7, .no] kx k = (rngT ((List.length side : Nat) : Int)).bind fun v12 => (mapF (fcZsplit_3 side marks mark) v12).bind fun v16 => k (.own (.lst (mI v16))) [(vL side), s1, (oL marks), s3, (vI mark), s5, s6, s7, .no] := by
 have hh := fun {γ : Type} {kx : Xn → List S → Option γ} (side : (List Int)) (marks : (List Int)) (mark : Int) (xs : List Int) (h' : List D → List S → Option γ) => cps_lcF (e := D.int) (e' := D.int) (ρ := [.val (.lst (List.map D.int side)), s1, .own (.lst (List.map D.int marks)), s3, .val (.int mark), s5, s6, s7, .no]) (kx := kx) (f := (fcZsplit_3 side marks mark)) xs (lcsZsplit_3 side marks mark) h'
 simp? only [cZsplit_3, hh]
theorem stZsplit_5 {s1 s3 s5 s7 : S} (side : (List Int)) (marks : (List Int)) (mark : Int) : (sFz 6 (sSet 2 6 cZsplit_3)) [(vL side), s1, (oL marks), s3, (vI mark), s5, .no, s7, .no] = (rngT ((List.length side : Nat) : Int)).bind fun v12 => (mapF (fcZsplit_3 side marks mark) v12).bind fun v16 => some (.nx [(vL side), s1, (oL marks), s3, (vI mark), s5, (vL v16), s7, .no]) := by
 simp? only [lcZsplit_3]
theorem tstZsplit_2 {s0 s1 s2 s3 s4 s5 s7 s8 : S} (cell : (List Int)) {γ : Type} {kx : Xn → List S → Option γ} {k : Bool → List S → Option γ} : cps (tCmp (eNe (eVar 6) (eLst aNil))) [s0, s1, s2, s3, s4, s5, (vL cell), s7, s8] kx k = k (!decide (cell = ([] : List Int))) [s0, s1, s2, s3, s4, s5, (vL cell), s7, s8] := by
 simp? only [Tl.ob_some]
theorem stZsplit_6 {s0 s1 s2 s4 s5 s7 s8 : S} (cells : (List (List Int))) (cell : (List Int)) : (sExpr (mAppend (eVar 3) (eVar 6))) [s0, s1, s2, .own (.lst (mL cells)), s4, s5, (vL cell), s7, s8] = (gz (List.length cells + 1)).bind fun _ => some (.nx [s0, s1, s2, .own (.lst (List.map (fun x => (D.lst (mI x))) (cells ++ [cell]))), s4, s5, (vL cell), s7, s8]) := by
 simp? only [Tl.ob_some]
theorem ilZsplit_2 {s0 s1 s2 s4 s5 s7 s8 : S} (cells : (List (List Int))) (cell : (List Int)) : iZsplit_2 [s0, s1, s2, .own (.lst (mL cells)), s4, s5, (vL cell), s7, s8] = (if (!decide (cell = ([] : List Int))) = true then (gz (List.length cells + 1)).bind fun _ => let cells := (cells ++ [cell]); some (cells) else some (cells)).bind fun v17 => some (.nx [s0, s1, s2, .own (.lst (mL v17)), s4, s5, (vL cell), s7, s8]) := by
 dsimp? only [iZsplit_2, tstZsplit_2, stZsplit_6]
def tbZsplit_1 (side : (List Int)) (marks : (List Int)) (it : Int) (env : ((List (List Int)))) : Option ((List (List Int))) := let mark := it; let cells := env; (rngT ((List.length side : Nat) : Int)).bind fun v12 => (mapF (fcZsplit_3 side marks mark) v12).bind fun v16 => let cell := v16; (if (!decide (cell = ([] : List Int))) = true then (gz (List.length cells + 1)).bind fun _ => let cells := (cells ++ [cell]); some (cells) else some (cells)).bind fun v17 => let cells := v17; some cells
theorem blZsplit_1 {s1 s5 s7 : S} (side : (List Int)) (marks : (List Int)) (it : Int) (env : ((List (List Int)))) : ((gN 4) (.int it) [(vL side), s1, (oL marks), .own (.lst (mL env)), .no, s5, .no, s7, .no]).bind bZsplit_1 = ((tbZsplit_1 side marks) it env).bind fun o => some (.nx [(vL side), s1, (oL marks), .own (.lst (mL o)), .no, s5, .no, s7, .no]) := by
 dsimp? only [bZsplit_1, tbZsplit_1, gT_eq, gsN_eq, gsC_eq, l_cons, l_nil, stZsplit_5, ilZsplit_2]
theorem llZsplit_1 {s1 s5 s7 : S} (side : (List Int)) (marks : (List Int)) (cells : (List (List Int))) : lZsplit_1 [(vL side), s1, (oL marks), .own (.lst (mL cells)), .no, s5, .no, s7, .no] = (rngT (4 : Int)).bind fun v11 => (foldT (tbZsplit_1 side marks) v11 cells).bind fun o => some (.nx [(vL side), s1, (oL marks), .own (.lst (mL o)), .no, s5, .no, s7, .no]) := by
 have hh := fun (side : (List Int)) (marks : (List Int)) (xs : List Int) (env : ((List (List Int)))) => forL_fold (e := D.int) (st := fun (env : ((List (List Int)))) => [.val (.lst (List.map D.int side)), s1, .own (.lst (List.map D.int marks)), .own (.lst (List.map (fun x => (D.lst (List.map D.int x))) env)), .no, s5, .no, s7, .no]) (tg := (gN 4)) (body := bZsplit_1) (tb := (tbZsplit_1 side marks)) xs env (fun x _ env => blZsplit_1 side marks x env)
 have hh := fun (side : (List Int)) (marks : (List Int)) (cells : (List (List Int))) (xs : List Int) => hh side marks xs cells
 simp? only [lZsplit_1, sFor_eq] at hh ⊢
 simp? only [hh]
theorem stZsplit_7 {s0 s2 s4 s5 s6 s7 s8 : S} (source : (List Int)) (cells : (List (List Int))) : (sRtA [0, 2, 3, 4, 5, 6, 7, 8] (sRet (eVar 3))) [s0, (oL source), s2, .own (.lst (mL cells)), s4, s5, s6, s7, s8] = some (.rt (.own (.lst (mL cells))) [.no, (oL source), .no, .no, .no, .no, .no, .no, .no]) := by
 simp? only [Tl.ob_some]
def tZsplit (side : (List Int)) (source : (List Int)) : Option ((List (List Int)) × (List Int)) := (mapE (fcZsplit_1 side) side source).bind fun v3 => let source_n := v3.2; let marks_n := v3.1; let source := source_n; let marks := marks_n; ((mapF (fcZsplit_2 marks) marks).bind fun v6 => if (decide (((List.length v6 : Nat) : Int) = ((List.length marks : Nat) : Int))) = true then (tZdraw source ((List.length marks : Nat) : Int)).bind fun v7 => let source_n := v7.2; let odd_n := v7.1; let source := source_n; let odd := odd_n; (atI marks odd).bind fun v8 => (setT marks odd (v8 + (1 : Int))).bind fun v9 => let marks := v9; some (source, marks) else some (source, marks)).bind fun v10 => let source := v10.1; let marks := v10.2; let cells := ([] : List (List Int)); (rngT (4 : Int)).bind fun v11 => (foldT (tbZsplit_1 side marks) v11 cells).bind fun v18 => let cells := v18; some (cells, source)
theorem eqZsplit : ∀ (side : (List Int)) (source : (List Int)), FnZsplit [.val (.lst (List.map D.int side)), .own (.lst (List.map D.int source))] = (tZsplit side source).bind fun r => some (.ret (.own (.lst (List.map (fun x => (D.lst (List.map D.int x))) r.1))) [.val (.lst (List.map D.int side)), .own (.lst (List.map D.int r.2))]) := fun side source => by
 show mkFn _ _ _ _ = _
 rw [mkFn_eq]
 dsimp? only [fZsplit, tZsplit, Nat.reduceSub, Nat.reduceAdd, rtn_bind, rtn_ite, rtn_none, rtn_nx, rtn_rtv, rtn_rto, rtn_ex, rtn_k, post_n, post_v, post_o, l_cons, l_nil, r_succ, r_zero, a_cons, a_nil, stZsplit_1, ilZsplit_1, stZsplit_4, llZsplit_1, stZsplit_7]
def fcZtree_1 (tZtree : (List (List Int)) → (List Int) → (List Int) → Option (QT × (List Int) × (List Int))) (sides : (List (List Int))) (v2 : Int) : Option (Option Int) := (atI sides v2).bind fun v3 => if (decide ((1 : Int) < ((List.length v3 : Nat) : Int))) = true then some (some v2) else some none
section
variable {FZtree : Fn} {tZtree : (List (List Int)) → (List Int) → (List Int) → Option (QT × (List Int) × (List Int))} (ih : ∀ (sides : (List (List Int))) (source : (List Int)) (ends : (List Int)), FZtree [.val (.lst (List.map (fun x => (D.lst (List.map D.int x))) sides)), .own (.lst (List.map D.int source)), .own (.lst (List.map D.int ends))] = (tZtree sides source ends).bind fun r => some (.ret (.val (e_tree r.1)) [.val (.lst (List.map (fun x => (D.lst (List.map D.int x))) sides)), .own (.lst (List.map D.int r.2.1)), .own (.lst (List.map D.int r.2.2))]))
include ih
theorem lcsZtree_1 {s1 s2 s3 s4 s5 s6 s7 : S} (sides : (List (List Int))) (v2 : Int) : lcS (gN 8) (tCmp (eGt (eB gLen (aCons (eIx (eVar 0) (eVar 8)) aNil)) (eC (.int 1)))) (eVar 8) [8] (.int v2) [(vM sides), s1, s2, s3, s4, s5, s6, s7, .no] = ((fcZtree_1 tZtree sides) v2).bind fun y => some (y.map D.int, [(vM sides), s1, s2, s3, s4, s5, s6, s7, .no]) := by
 simp? only [lcS, fcZtree_1, Option.map_some, Option.map_none]
theorem lcZtree_1 {s1 s2 s3 s4 s5 s6 s7 : S} (sides : (List (List Int))) {γ : Type} {kx : Xn → List S → Option γ} {k : Rv → List S → Option γ} : cps cZtree_1 [(vM sides), s1, s2, s3, s4, s5, s6, s7, .no] kx k = (rngT ((List.length sides : Nat) : Int)).bind fun v1 => (mapF (fcZtree_1 tZtree sides) v1).bind fun v4 => k (.own (.lst (mI v4))) [(vM sides), s1, s2, s3, s4, s5, s6, s7, .no] := by
 have hh := fun {γ : Type} {kx : Xn → List S → Option γ} (sides : (List (List Int))) (xs : List Int) (h' : List D → List S → Option γ) => cps_lcF (e := D.int) (e' := D.int) (ρ := [.val (.lst (List.map (fun x => (D.lst (List.map D.int x))) sides)), s1, s2, s3, s4, s5, s6, s7, .no]) (kx := kx) (f := (fcZtree_1 tZtree sides)) xs ((lcsZtree_1 ih) sides) h'
 simp? only [cZtree_1, hh]
theorem stZtree_1 {s1 s2 s4 s5 s6 s7 : S} (sides : (List (List Int))) : (sFz 3 (sSet 3 3 cZtree_1)) [(vM sides), s1, s2, .no, s4, s5, s6, s7, .no] = (rngT ((List.length sides : Nat) : Int)).bind fun v1 => (mapF (fcZtree_1 tZtree sides) v1).bind fun v4 => some (.nx [(vM sides), s1, s2, (vL v4), s4, s5, s6, s7, .no]) := by
 simp? only [(lcZtree_1 ih)]
theorem tstZtree_1 {s0 s2 s4 s5 s6 s7 s8 : S} (source : (List Int)) (wide : (List Int)) {γ : Type} {kx : Xn → List S → Option γ} {k : Bool → List S → Option γ} : cps (tZtree_1 FnZdraw) [s0, (oL source), s2, (vL wide), s4, s5, s6, s7, s8] kx k = ((if (decide (wide = ([] : List Int))) = true then some (true, source) else (tZdraw source (5 : Int)).bind fun v5 => some ((decide (v5.1 = (0 : Int))), v5.2))).bind fun v6 => k (v6.1) [s0, (oL v6.2), s2, (vL wide), s4, s5, s6, s7, s8] := by
 have ka : ∀ (a b : Bool) (ρ : List S), (if a = true then k b ρ else k false ρ) = k (a && b) ρ := fun a b ρ => by cases a <;> rfl
 have ko : ∀ (a b : Bool) (ρ : List S), (if a = true then k true ρ else k b ρ) = k (a || b) ρ := fun a b ρ => by cases a <;> rfl
 simp? only [tZtree_1, eqZdraw]
theorem tstZtree_2 {s0 s2 s4 s5 s6 s7 s8 : S} (source : (List Int)) (wide : (List Int)) {γ : Type} {kx : Xn → List S → Option γ} {k : Bool → List S → Option γ} : cps (tZtree_1 FnZdraw) [s0, (oL source), s2, (vL wide), s4, s5, s6, s7, s8] kx k = ((if (decide (wide = ([] : List Int))) = true then some (true, source) else (tZdraw source (5 : Int)).bind fun v5 => some ((decide (v5.1 = (0 : Int))), v5.2))).bind fun v6 => k v6.1 [s0, (oL v6.2), s2, (vL wide), s4, s5, s6, s7, s8] := by
 simp? only [(tstZtree_1 ih)]
theorem stZtree_2 {s0 s1 s3 s4 s5 s6 s7 s8 : S} (ends : (List Int)) : (sExpr (mAppend (eVar 2) (eB gLen (aCons (eVar 2) aNil)))) [s0, s1, (oL ends), s3, s4, s5, s6, s7, s8] = (gz (List.length ends + 1)).bind fun _ => some (.nx [s0, s1, .own (.lst (List.map D.int (ends ++ [((List.length ends : Nat) : Int)]))), s3, s4, s5, s6, s7, s8]) := by
 simp? only [Tl.ob_some]
theorem stZtree_3 {s0 s3 s4 s5 s6 s7 s8 : S} (source : (List Int)) (ends : (List Int)) : (sRtA [0, 3, 4, 5, 6, 7, 8] (sRet (eTup (aCons (eC (.str "end")) (aCons (eSub (eB gLen (aCons (eVar 2) aNil)) (eC (.int 1))) aNil))))) [s0, (oL source), (oL ends), s3, s4, s5, s6, s7, s8] = some (.rt (.val (e_tree (QT.fin (((List.length ends : Nat) : Int) - (1 : Int))))) [.no, (oL source), (oL ends), .no, .no, .no, .no, .no, .no]) := by
 simp? only [Tl.ob_some]
theorem stZtree_4 {s0 s2 s5 s6 s7 s8 : S} (source : (List Int)) (wide : (List Int)) : (sSet 3 4 (eIx (eVar 3) (eCall [true, false] FnZdraw (aCons (eVar 1) (aCons (eB gLen (aCons (eVar 3) aNil)) aNil))))) [s0, (oL source), s2, (vL wide), .no, s5, s6, s7, s8] = (tZdraw source ((List.length wide : Nat) : Int)).bind fun v7 => (atI wide v7.1).bind fun v8 => some (.nx [s0, (oL v7.2), s2, (vL wide), (vI v8), s5, s6, s7, s8]) := by
 simp? only [eqZdraw]
theorem stZtree_5 {s0 s1 s2 s3 s4 s6 s7 s8 : S}  : (sSet 3 5 (eLst aNil)) [s0, s1, s2, s3, s4, .no, s6, s7, s8] = some (.nx [s0, s1, s2, s3, s4, .own (.lst (List.map (fun (x : ((List Int) × QT)) => (D.tup [(.tup (mI x.1)), (e_tree x.2)])) ([] : List ((List Int) × QT)))), s6, s7, s8]) := by
 simp? only [Tl.ob_some]
theorem stZtree_6 {s3 s5 s8 : S} (sides : (List (List Int))) (source : (List Int)) (ends : (List Int)) (party : Int) (cell : (List Int)) : (sSet 3 7 (eCall [false, true, true] FZtree (aCons (eAdd (eAdd (eSl (eVar 0) oNo (oSome (eVar 4))) (eLst (aCons (eVar 6) aNil))) (eSl (eVar 0) (oSome (eAdd (eVar 4) (eC (.int 1)))) oNo)) (aCons (eVar 1) (aCons (eVar 2) aNil))))) [(vM sides), (oL source), (oL ends), s3, (vI party), s5, (vL cell), .no, s8] = (gz (List.length (cutD sides none (some party)) + List.length [cell])).bind fun _ => (gz (List.length ((cutD sides none (some party)) ++ [cell]) + List.length (cutD sides (some (party + (1 : Int))) none))).bind fun _ => (tZtree (((cutD sides none (some party)) ++ [cell]) ++ (cutD sides (some (party + (1 : Int))) none)) source ends).bind fun v11 => some (.nx [(vM sides), (oL v11.2.1), (oL v11.2.2), s3, (vI party), s5, (vL cell), .val (e_tree v11.1), s8]) := by
 have q0 := ih (((cutD sides none (some party)) ++ [cell]) ++ (cutD sides (some (party + (1 : Int))) none)) source ends
 try simp? only [Tl.ob_some] at q0
 simp? only [q0]
theorem stZtree_7 {s0 s1 s2 s3 s4 s8 : S} (branches : (List ((List Int) × QT))) (cell : (List Int)) (below : QT) : (sExpr (mAppend (eVar 5) (eTup (aCons (eB gTuple (aCons (eVar 6) aNil)) (aCons (eVar 7) aNil))))) [s0, s1, s2, s3, s4, .own (.lst (List.map (fun (x : ((List Int) × QT)) => (D.tup [(.tup (mI x.1)), (e_tree x.2)])) branches)), (vL cell), .val (e_tree below), s8] = (gz (List.length branches + 1)).bind fun _ => some (.nx [s0, s1, s2, s3, s4, .own (.lst (List.map (fun (x : ((List Int) × QT)) => (D.tup [(.tup (mI x.1)), (e_tree x.2)])) (branches ++ [(cell, below)]))), (vL cell), .val (e_tree below), s8]) := by
 simp? only [Tl.ob_some]
end
def tbZtree_1 (tZtree : (List (List Int)) → (List Int) → (List Int) → Option (QT × (List Int) × (List Int))) (sides : (List (List Int))) (party : Int) (it : (List Int)) (env : ((List Int) × (List Int) × (List ((List Int) × QT)))) : Option ((List Int) × (List Int) × (List ((List Int) × QT))) := let cell := it; let source := env.1; let ends := env.2.1; let branches := env.2.2; (gz (List.length (cutD sides none (some party)) + List.length [cell])).bind fun _ => (gz (List.length ((cutD sides none (some party)) ++ [cell]) + List.length (cutD sides (some (party + (1 : Int))) none))).bind fun _ => (tZtree (((cutD sides none (some party)) ++ [cell]) ++ (cutD sides (some (party + (1 : Int))) none)) source ends).bind fun v11 => let source_n := v11.2.1; let ends_n := v11.2.2; let below_n := v11.1; let source := source_n; let ends := ends_n; let below := below_n; (gz (List.length branches + 1)).bind fun _ => let branches := (branches ++ [(cell, below)]); some (source, ends, branches)
section
variable {FZtree : Fn} {tZtree : (List (List Int)) → (List Int) → (List Int) → Option (QT × (List Int) × (List Int))} (ih : ∀ (sides : (List (List Int))) (source : (List Int)) (ends : (List Int)), FZtree [.val (.lst (List.map (fun x => (D.lst (List.map D.int x))) sides)), .own (.lst (List.map D.int source)), .own (.lst (List.map D.int ends))] = (tZtree sides source ends).bind fun r => some (.ret (.val (e_tree r.1)) [.val (.lst (List.map (fun x => (D.lst (List.map D.int x))) sides)), .own (.lst (List.map D.int r.2.1)), .own (.lst (List.map D.int r.2.2))]))
include ih
theorem blZtree_1 {s3 s8 : S} (sides : (List (List Int))) (party : Int) (it : (List Int)) (env : ((List Int) × (List Int) × (List ((List Int) × QT)))) : ((gN 6) (.lst (mI it)) [(vM sides), (oL env.1), (oL env.2.1), s3, (vI party), .own (.lst (List.map (fun (x : ((List Int) × QT)) => (D.tup [(.tup (mI x.1)), (e_tree x.2)])) env.2.2)), .no, .no, s8]).bind (bZtree_1 FZtree) = ((tbZtree_1 tZtree sides party) it env).bind fun o => some (.nx [(vM sides), (oL o.1), (oL o.2.1), s3, (vI party), .own (.lst (List.map (fun (x : ((List Int) × QT)) => (D.tup [(.tup (mI x.1)), (e_tree x.2)])) o.2.2)), .no, .no, s8]) := by
 dsimp? only [bZtree_1, tbZtree_1, gT_eq, gsN_eq, gsC_eq, l_cons, l_nil, (stZtree_6 ih), (stZtree_7 ih)]
theorem llZtree_1 {s3 s8 : S} (sides : (List (List Int))) (source : (List Int)) (ends : (List Int)) (party : Int) (branches : (List ((List Int) × QT))) : (lZtree_1 FnZsplit FZtree) [(vM sides), (oL source), (oL ends), s3, (vI party), .own (.lst (List.map (fun (x : ((List Int) × QT)) => (D.tup [(.tup (mI x.1)), (e_tree x.2)])) branches)), .no, .no, s8] = (atI sides party).bind fun v9 => (tZsplit v9 source).bind fun v10 => (foldT (tbZtree_1 tZtree sides party) v10.1 (v10.2, ends, branches)).bind fun o => some (.nx [(vM sides), (oL o.1), (oL o.2.1), s3, (vI party), .own (.lst (List.map (fun (x : ((List Int) × QT)) => (D.tup [(.tup (mI x.1)), (e_tree x.2)])) o.2.2)), .no, .no, s8]) := by
 have hh := fun (sides : (List (List Int))) (party : Int) (xs : List (List Int)) (env : ((List Int) × (List Int) × (List ((List Int) × QT)))) => forL_fold (e := (fun x => (D.lst (List.map D.int x)))) (st := fun (env : ((List Int) × (List Int) × (List ((List Int) × QT)))) => [.val (.lst (List.map (fun x => (D.lst (List.map D.int x))) sides)), .own (.lst (List.map D.int env.1)), .own (.lst (List.map D.int env.2.1)), s3, .val (.int party), .own (.lst (List.map (fun (x : ((List Int) × QT)) => (D.tup [(.tup (List.map D.int x.1)), (e_tree x.2)])) env.2.2)), .no, .no, s8]) (tg := (gN 6)) (body := (bZtree_1 FZtree)) (tb := (tbZtree_1 tZtree sides party)) xs env (fun x _ env => (blZtree_1 ih) sides party x env)
 have hh := fun (sides : (List (List Int))) (party : Int) (source : (List Int)) (ends : (List Int)) (branches : (List ((List Int) × QT))) (xs : List (List Int)) => hh sides party xs (source, ends, branches)
 simp? only [lZtree_1, sFor_eq, eqZsplit] at hh ⊢
 simp? only [hh]
theorem stZtree_8 {s0 s3 s6 s7 s8 : S} (source : (List Int)) (ends : (List Int)) (party : Int) (branches : (List ((List Int) × QT))) : (sRtA [0, 3, 4, 5, 6, 7, 8] (sRet (eTup (aCons (eC (.str "ask")) (aCons (eVar 4) (aCons (eB gTuple (aCons (eVar 5) aNil)) aNil)))))) [s0, (oL source), (oL ends), s3, (vI party), .own (.lst (List.map (fun (x : ((List Int) × QT)) => (D.tup [(.tup (mI x.1)), (e_tree x.2)])) branches)), s6, s7, s8] = some (.rt (.val (e_tree (QT.ask party (QTs.of branches)))) [.no, (oL source), (oL ends), .no, .no, .no, .no, .no, .no]) := by
 simp? only [Tl.ob_some]
end
def tsZtree (tZtree : (List (List Int)) → (List Int) → (List Int) → Option (QT × (List Int) × (List Int))) (sides : (List (List Int))) (source : (List Int)) (ends : (List Int)) : Option (QT × (List Int) × (List Int)) := (rngT ((List.length sides : Nat) : Int)).bind fun v1 => (mapF (fcZtree_1 tZtree sides) v1).bind fun v4 => let wide := v4; ((if (decide (wide = ([] : List Int))) = true then some (true, source) else (tZdraw source (5 : Int)).bind fun v5 => some ((decide (v5.1 = (0 : Int))), v5.2))).bind fun v6 => let c_ := v6.1; let source_n := v6.2; let source := source_n; if c_ = true then (gz (List.length ends + 1)).bind fun _ => let ends := (ends ++ [((List.length ends : Nat) : Int)]); some ((QT.fin (((List.length ends : Nat) : Int) - (1 : Int))), source, ends) else (tZdraw source ((List.length wide : Nat) : Int)).bind fun v7 => (atI wide v7.1).bind fun v8 => let source_n := v7.2; let party_n := v8; let source := source_n; let party := party_n; let branches := ([] : List ((List Int) × QT)); (atI sides party).bind fun v9 => (tZsplit v9 source).bind fun v10 => (foldT (tbZtree_1 tZtree sides party) v10.1 (v10.2, ends, branches)).bind fun v12 => let source := v12.1; let ends := v12.2.1; let branches := v12.2.2; some ((QT.ask party (QTs.of branches)), source, ends)
def tZtree : Nat → (List (List Int)) → (List Int) → (List Int) → Option (QT × (List Int) × (List Int))
 | 0 => fun _ _ _ => none
 | n + 1 => tsZtree (tZtree n)
theorem eqZtree : ∀ n, ∀ (sides : (List (List Int))) (source : (List Int)) (ends : (List Int)), FnZtree n [.val (.lst (List.map (fun x => (D.lst (List.map D.int x))) sides)), .own (.lst (List.map D.int source)), .own (.lst (List.map D.int ends))] = (tZtree n sides source ends).bind fun r => some (.ret (.val (e_tree r.1)) [.val (.lst (List.map (fun x => (D.lst (List.map D.int x))) sides)), .own (.lst (List.map D.int r.2.1)), .own (.lst (List.map D.int r.2.2))])
 | 0 => fun _ _ _ => rfl
 | n + 1 => fun sides source ends => by
  have ih := eqZtree n
  show mkFn _ _ _ _ = (tsZtree (tZtree n) sides source ends).bind _
  rw [mkFn_eq]
  dsimp? only [fZtree, tsZtree, Nat.reduceSub, Nat.reduceAdd, rtn_bind, rtn_ite, rtn_none, rtn_nx, rtn_rtv, rtn_rto, rtn_ex, rtn_k, post_n, post_v, post_o, l_cons, l_nil, r_succ, r_zero, a_cons, a_nil, (stZtree_1 ih), (tstZtree_2 ih), (stZtree_2 ih), (stZtree_3 ih), (stZtree_4 ih), (stZtree_5 ih), (llZtree_1 ih), (stZtree_8 ih)]
theorem tst_is_integer_1 (value : Int) {γ : Type} {kx : Xn → List S → Option γ} {k : Rv → List S → Option γ} : cps e_is_integer_1 [(vI value)] kx k = k (.val (.bl ((true && (!false))))) [(vI value)] := by
 have ka : ∀ (a b : Bool) (ρ : List S), (if a = true then k (.val (.bl b)) ρ else k (.val (.bl a)) ρ) = k (.val (.bl (a && b))) ρ := fun a b ρ => by cases a <;> rfl
 have ko : ∀ (a b : Bool) (ρ : List S), (if a = true then k (.val (.bl a)) ρ else k (.val (.bl b)) ρ) = k (.val (.bl (a || b))) ρ := fun a b ρ => by cases a <;> rfl
 simp? only [e_is_integer_1, ka, ko]
theorem st_is_integer_1 (value : Int) : (sRtA [0] (sRet e_is_integer_1)) [(vI value)] = some (.rt (.val (.bl (true && (!false)))) [.no]) := by
 simp? only [tst_is_integer_1]
def t_is_integer (value : Int) : Option (Bool) := some (true && (!false))
theorem eq_is_integer : ∀ (value : Int), Fn_is_integer [.val (.int value)] = (t_is_integer value).bind fun r => some (.ret (.val (.bl r)) [.val (.int value)]) := fun value => by
 show mkFn _ _ _ _ = _
 rw [mkFn_eq]
 dsimp? only [f_is_integer, t_is_integer, Nat.reduceSub, Nat.reduceAdd, rtn_bind, rtn_ite, rtn_none, rtn_nx, rtn_rtv, rtn_rto, rtn_ex, rtn_k, post_n, post_v, post_o, l_cons, l_nil, r_succ, r_zero, a_cons, a_nil, st_is_integer_1]
theorem tst_is_number_1 (value : Int) {γ : Type} {kx : Xn → List S → Option γ} {k : Rv → List S → Option γ} : cps (e_is_number_1 Fn_is_integer) [(vI value)] kx k = (t_is_integer value).bind fun v1 => k (.val (.bl ((v1 && (decide ((0 : Int) ≤ value)))))) [(vI value)] := by
 have ka : ∀ (a b : Bool) (ρ : List S), (if a = true then k (.val (.bl b)) ρ else k (.val (.bl a)) ρ) = k (.val (.bl (a && b))) ρ := fun a b ρ => by cases a <;> rfl
 have ko : ∀ (a b : Bool) (ρ : List S), (if a = true then k (.val (.bl a)) ρ else k (.val (.bl b)) ρ) = k (.val (.bl (a || b))) ρ := fun a b ρ => by cases a <;> rfl
 simp? only [e_is_number_1, eq_is_integer, ka, ko]
theorem st_is_number_1 (value : Int) : (sRtA [0] (sRet (e_is_number_1 Fn_is_integer))) [(vI value)] = (t_is_integer value).bind fun v1 => some (.rt (.val (.bl (v1 && (decide ((0 : Int) ≤ value))))) [.no]) := by
 simp? only [tst_is_number_1]
def t_is_number (value : Int) : Option (Bool) := (t_is_integer value).bind fun v1 => some (v1 && (decide ((0 : Int) ≤ value)))
theorem eq_is_number : ∀ (value : Int), Fn_is_number [.val (.int value)] = (t_is_number value).bind fun r => some (.ret (.val (.bl r)) [.val (.int value)]) := fun value => by
 show mkFn _ _ _ _ = _
 rw [mkFn_eq]
 dsimp? only [f_is_number, t_is_number, Nat.reduceSub, Nat.reduceAdd, rtn_bind, rtn_ite, rtn_none, rtn_nx, rtn_rtv, rtn_rto, rtn_ex, rtn_k, post_n, post_v, post_o, l_cons, l_nil, r_succ, r_zero, a_cons, a_nil, st_is_number_1]
theorem st_ascending_1 {s0 s2 : S}  : (sSet 1 1 (eLst aNil)) [s0, .no, s2] = some (.nx [s0, .own (.lst (List.map D.int ([] : List Int))), s2]) := by
 simp? only [Tl.ob_some]
theorem lcs_ascending_1 {s1 : S} (numbers : (Bool × List Int)) (v1 : Int) : lcS (gN 2) tYes' (eB gInt (aCons (eVar 2) aNil)) [2] (.int v1) [.val (eSq D.int numbers), s1, .no] = some (some (D.int v1), [.val (eSq D.int numbers), s1, .no]) := by
 simp? only [lcS]
theorem lc_ascending_1 {s1 : S} (numbers : (Bool × List Int)) {γ : Type} {kx : Xn → List S → Option γ} {k : Rv → List S → Option γ} : cps c_ascending_1 [.val (eSq D.int numbers), s1, .no] kx k = k (.own (.lst (mI numbers.2))) [.val (eSq D.int numbers), s1, .no] := by
 have hh := fun {γ : Type} {kx : Xn → List S → Option γ} (numbers : (Bool × List Int)) (xs : List Int) (h' : List D → List S → Option γ) => cps_lcP (e := D.int) (e' := D.int) (ρ := [.val (eSq D.int numbers), s1, .no]) (kx := kx) (f := fun (v1 : Int) => v1) xs (lcs_ascending_1 numbers) h'
 simp only [m_idf] at hh
 simp? only [c_ascending_1, hh]
theorem tst_ascending_1 {s0 : S} (kept : (List Int)) (number : Int) {γ : Type} {kx : Xn → List S → Option γ} {k : Bool → List S → Option γ} : cps t_ascending_1 [s0, (oL kept), (vI number)] kx k = ((if (!(!(List.isEmpty kept))) = true then some true else (atI kept (-(1 : Int))).bind fun v2 => some (!decide (v2 = number)))).bind fun v3 => k (v3) [s0, (oL kept), (vI number)] := by
 have ka : ∀ (a b : Bool) (ρ : List S), (if a = true then k b ρ else k false ρ) = k (a && b) ρ := fun a b ρ => by cases a <;> rfl
 have ko : ∀ (a b : Bool) (ρ : List S), (if a = true then k true ρ else k b ρ) = k (a || b) ρ := fun a b ρ => by cases a <;> rfl
 simp? only [t_ascending_1]
theorem tst_ascending_2 {s0 : S} (kept : (List Int)) (number : Int) {γ : Type} {kx : Xn → List S → Option γ} {k : Bool → List S → Option γ} : cps t_ascending_1 [s0, (oL kept), (vI number)] kx k = ((if (!(!(List.isEmpty kept))) = true then some true else (atI kept (-(1 : Int))).bind fun v2 => some (!decide (v2 = number)))).bind fun v3 => k v3 [s0, (oL kept), (vI number)] := by
 simp? only [tst_ascending_1]
theorem st_ascending_2 {s0 : S} (kept : (List Int)) (number : Int) : (sExpr (mAppend (eVar 1) (eVar 2))) [s0, (oL kept), (vI number)] = (gz (List.length kept + 1)).bind fun _ => some (.nx [s0, .own (.lst (List.map D.int (kept ++ [number]))), (vI number)]) := by
 simp? only [Tl.ob_some]
theorem il_ascending_1 {s0 : S} (kept : (List Int)) (number : Int) : i_ascending_1 [s0, (oL kept), (vI number)] = (((if (!(!(List.isEmpty kept))) = true then some true else (atI kept (-(1 : Int))).bind fun v2 => some (!decide (v2 = number)))).bind fun v3 => if v3 = true then (gz (List.length kept + 1)).bind fun _ => let kept := (kept ++ [number]); some (kept) else some (kept)).bind fun v4 => some (.nx [s0, (oL v4), (vI number)]) := by
 dsimp? only [i_ascending_1, tst_ascending_2, st_ascending_2]
def tb_ascending_1  (it : Int) (env : ((List Int))) : Option ((List Int)) := let number := it; let kept := env; (((if (!(!(List.isEmpty kept))) = true then some true else (atI kept (-(1 : Int))).bind fun v2 => some (!decide (v2 = number)))).bind fun v3 => if v3 = true then (gz (List.length kept + 1)).bind fun _ => let kept := (kept ++ [number]); some (kept) else some (kept)).bind fun v4 => let kept := v4; some kept
theorem bl_ascending_1 {s0 : S}  (it : Int) (env : ((List Int))) : ((gN 2) (.int it) [s0, (oL env), .no]).bind b_ascending_1 = ((tb_ascending_1 ) it env).bind fun o => some (.nx [s0, (oL o), .no]) := by
 dsimp? only [b_ascending_1, tb_ascending_1, gT_eq, gsN_eq, gsC_eq, l_cons, l_nil, il_ascending_1]
theorem ll_ascending_1 (numbers : (Bool × List Int)) (kept : (List Int)) : l_ascending_1 [.val (eSq D.int numbers), (oL kept), .no] = (foldT (tb_ascending_1 ) (sortI numbers.2) kept).bind fun o => some (.nx [.val (eSq D.int numbers), (oL o), .no]) := by
 have hh := fun  (xs : List Int) (env : ((List Int))) => forL_fold (e := D.int) (st := fun (env : ((List Int))) => [.val (eSq D.int numbers), .own (.lst (List.map D.int env)), .no]) (tg := (gN 2)) (body := b_ascending_1) (tb := (tb_ascending_1 )) xs env (fun x _ env => bl_ascending_1  x env)
 have hh := fun  (kept : (List Int)) (xs : List Int) => hh  xs kept
 simp? only [l_ascending_1, sFor_eq, lc_ascending_1] at hh ⊢
 simp? only [hh]
theorem st_ascending_3 {s0 s2 : S} (kept : (List Int)) : (sRtA [0, 1, 2] (sRet (eB gTuple (aCons (eVar 1) aNil)))) [s0, (oL kept), s2] = some (.rt (.val (.tup (mI kept))) [.no, .no, .no]) := by
 simp? only [Tl.ob_some]
def t_ascending (numbers : (Bool × List Int)) : Option ((List Int)) := let kept := ([] : List Int); (foldT (tb_ascending_1 ) (sortI numbers.2) kept).bind fun v5 => let kept := v5; some kept
theorem eq_ascending : ∀ (numbers : (Bool × List Int)), Fn_ascending [.val (eSq D.int numbers)] = (t_ascending numbers).bind fun r => some (.ret (.val (.tup (List.map D.int r))) [.val (eSq D.int numbers)]) := fun numbers => by
 show mkFn _ _ _ _ = _
 rw [mkFn_eq]
 dsimp? only [f_ascending, t_ascending, Nat.reduceSub, Nat.reduceAdd, rtn_bind, rtn_ite, rtn_none, rtn_nx, rtn_rtv, rtn_rto, rtn_ex, rtn_k, post_n, post_v, post_o, l_cons, l_nil, r_succ, r_zero, a_cons, a_nil, st_ascending_1, ll_ascending_1, st_ascending_3]
def t_checked (rows : QT) (path : List Int) : Option QT := Tl.t_checked t_ascending 12 rows path
noncomputable def Fn_checked : Fn := relFn (fun (x : QT × List Int) => [.val (e_tree x.1), .val (.tup (List.map D.int x.2))]) (fun x => (t_checked x.1 x.2).bind fun r => some (.ret (.val (e_tree r)) [.val (e_tree x.1), .val (.tup (List.map D.int x.2))]))
theorem eq_checked (rows : QT) (path : List Int) : Fn_checked [.val (e_tree rows), .val (.tup (List.map D.int path))] = (t_checked rows path).bind fun r => some (.ret (.val (e_tree r)) [.val (e_tree rows), .val (.tup (List.map D.int path))]) :=
 relFn_eq (enc := fun (x : QT × List Int) => [.val (e_tree x.1), .val (.tup (List.map D.int x.2))]) (fun a b h => by
  obtain ⟨h1, h⟩ := List.cons.inj h
  obtain ⟨h2, _⟩ := List.cons.inj h
  exact Prod.ext (tree_inj (S.val.inj h1)) (ints_inj (D.tup.inj (S.val.inj h2)))) (rows, path)
theorem num_checked (i : Int) : Fn_is_number [(vI i)] = some (.ret (.val (.bl (decide (0 ≤ i)))) [(vI i)]) := by
 rw [eq_is_number]; simp [t_is_number, t_is_integer]
theorem asc_checked (q : List Int) : Fn_ascending [.val (.lst (q.map D.int))] = (t_ascending (false, q)).bind fun r => some (.ret (.val (.tup (r.map D.int))) [.val (.lst (q.map D.int))]) := eq_ascending (false, q)
theorem le_checked : Fn.le Fn_checked (FnR_checked Fn_checked_cells 12) := relFn_le fun x o h => by
 obtain ⟨r, e, h⟩ := Option.bind_eq_some_iff.mp h
 cases h
 exact checked_true num_checked asc_checked 12 x.1 x.2 r e
section
variable {F_length_of : Fn} {t_length_of : QT → Option (Int)} (ih : ∀ (rows : QT), F_length_of [.val (e_tree rows)] = (t_length_of rows).bind fun r => some (.ret (.val (.int r)) [.val (e_tree rows)]))
include ih
theorem tst_length_of_1 {s1 s2 : S} (rows : QT) {γ : Type} {kx : Xn → List S → Option γ} {k : Bool → List S → Option γ} : cps (tCmp (eEq (eIx (eVar 0) (eC (.int 0))) (eC (.str "end")))) [.val (e_tree rows), s1, s2] kx k = k (decide ((QT.tag rows) = ("end" : Str))) [.val (e_tree rows), s1, s2] := by
 simp? only [Tl.ob_some]
theorem st_length_of_1 {s0 s1 s2 : S}  : (sRtA [0, 1, 2] (sRet (eC (.int 0)))) [s0, s1, s2] = some (.rt (.val (.int (0 : Int))) [.no, .no, .no]) := by
 simp? only [Tl.ob_some]
end
def fc_length_of_1 (t_length_of : QT → Option (Int)) (rows : QT) (v2 : ((List Int) × QT)) : Option Int := (t_length_of v2.2).bind fun v3 => some v3
section
variable {F_length_of : Fn} {t_length_of : QT → Option (Int)} (ih : ∀ (rows : QT), F_length_of [.val (e_tree rows)] = (t_length_of rows).bind fun r => some (.ret (.val (.int r)) [.val (e_tree rows)]))
include ih
theorem lcs_length_of_1 (rows : QT) (v2 : ((List Int) × QT)) : lcS (gT 2 (gsCons (gN 1) (gsCons (gN 2) gsNil))) tYes' (eB gInt (aCons (eCall [false] F_length_of (aCons (eVar 2) aNil)) aNil)) [1, 2] (.tup [(.tup (mI v2.1)), (e_tree v2.2)]) [.val (e_tree rows), .no, .no] = ((fc_length_of_1 t_length_of rows) v2).bind fun y => some (some (D.int y), [.val (e_tree rows), .no, .no]) := by
 simp? only [lcS, fc_length_of_1, ih]
theorem lc_length_of_1 (rows : QT) {γ : Type} {kx : Xn → List S → Option γ} {k : Rv → List S → Option γ} : cps (c_length_of_1 F_length_of) [.val (e_tree rows), .no, .no] kx k = (QT.brs rows).bind fun v1 => (mapT (fc_length_of_1 t_length_of rows) v1).bind fun v4 => k (.own (.lst (mI v4))) [.val (e_tree rows), .no, .no] := by
 have hh := fun {γ : Type} {kx : Xn → List S → Option γ} (rows : QT) (xs : List ((List Int) × QT)) (h' : List D → List S → Option γ) => cps_lcT (e := (fun (x : ((List Int) × QT)) => (D.tup [(.tup (List.map D.int x.1)), (e_tree x.2)]))) (e' := D.int) (ρ := [.val (e_tree rows), .no, .no]) (kx := kx) (f := (fc_length_of_1 t_length_of rows)) xs ((lcs_length_of_1 ih) rows) h'
 simp? only [c_length_of_1, hh]
theorem st_length_of_2 (rows : QT) : (sRtA [0, 1, 2] (sRet (eAdd (eC (.int 1)) (eB gMaxL (aCons (c_length_of_1 F_length_of) aNil))))) [.val (e_tree rows), .no, .no] = (QT.brs rows).bind fun v1 => (mapT (fc_length_of_1 t_length_of rows) v1).bind fun v4 => (lMax v4).bind fun v5 => some (.rt (.val (.int ((1 : Int) + v5))) [.no, .no, .no]) := by
 simp? only [(lc_length_of_1 ih)]
end
def ts_length_of (t_length_of : QT → Option (Int)) (rows : QT) : Option (Int) := if (decide ((QT.tag rows) = ("end" : Str))) = true then some (0 : Int) else (QT.brs rows).bind fun v1 => (mapT (fc_length_of_1 t_length_of rows) v1).bind fun v4 => (lMax v4).bind fun v5 => some ((1 : Int) + v5)
def t_length_of : Nat → QT → Option (Int)
 | 0 => fun _ => none
 | n + 1 => ts_length_of (t_length_of n)
theorem eq_length_of : ∀ n, ∀ (rows : QT), Fn_length_of n [.val (e_tree rows)] = (t_length_of n rows).bind fun r => some (.ret (.val (.int r)) [.val (e_tree rows)])
 | 0 => fun _ => rfl
 | n + 1 => fun rows => by
  have ih := eq_length_of n
  show mkFn _ _ _ _ = (ts_length_of (t_length_of n) rows).bind _
  rw [mkFn_eq]
  dsimp? only [f_length_of, ts_length_of, Nat.reduceSub, Nat.reduceAdd, rtn_bind, rtn_ite, rtn_none, rtn_nx, rtn_rtv, rtn_rto, rtn_ex, rtn_k, post_n, post_v, post_o, l_cons, l_nil, r_succ, r_zero, a_cons, a_nil, (tst_length_of_1 ih), (st_length_of_1 ih), (st_length_of_2 ih)]
def Fn_Tree_DinitD : Fn := mkFn 2 2 (f_Tree_DinitD Fn_checked (Fn_length_of 9))
theorem st_Tree_DinitD_1 (rows : QT) : (sSetF ["Tree"] "rows" (eVar 0) (eCall [false, false] Fn_checked (aCons (eVar 1) (aCons (eTup aNil) aNil)))) [.own (.obj "Tree" [] []), .val (e_tree rows)] = (t_checked rows ([] : List Int)).bind fun v1 => some (.nx [.own (.obj "Tree" ["rows"] [(e_tree v1)]), .val (e_tree rows)]) := by
 have q0 := eq_checked rows ([] : List Int)
 try simp? only [Tl.ob_some] at q0
 simp? only [q0, putF2_n, putF2_c]
theorem st_Tree_DinitD_2 {s1 : S} (self_rows : QT) : (sSetF ["Tree"] "length" (eVar 0) (eCall [false] (Fn_length_of 9) (aCons (eFld ["Tree"] "rows" (eVar 0)) aNil))) [.own (.obj "Tree" ["rows"] [(e_tree self_rows)]), s1] = ((t_length_of 9) self_rows).bind fun v2 => some (.nx [.own (.obj "Tree" ["rows", "length"] [(e_tree self_rows), (.int v2)]), s1]) := by
 simp? only [fldO_o, (eq_length_of 9), putF2_n, putF2_c]
def t_Tree_DinitD (rows : QT) : Option (T_Tree) := (t_checked rows ([] : List Int)).bind fun v1 => let self_rows := v1; ((t_length_of 9) self_rows).bind fun v2 => let self_length := v2; some (⟨self_rows, self_length⟩ : T_Tree)
theorem eq_Tree_DinitD : ∀ (rows : QT), Fn_Tree_DinitD [.own (.obj "Tree" [] []), .val (e_tree rows)] = (t_Tree_DinitD rows).bind fun r => some (.ret (.val .non) [.own (e_Tree r), .val (e_tree rows)]) := fun rows => by
 show mkFn _ _ _ _ = _
 rw [mkFn_eq]
 dsimp? only [f_Tree_DinitD, t_Tree_DinitD, Nat.reduceSub, Nat.reduceAdd, rtn_bind, rtn_ite, rtn_none, rtn_nx, rtn_rtv, rtn_rto, rtn_ex, rtn_k, post_n, post_v, post_o, l_cons, l_nil, r_succ, r_zero, a_cons, a_nil, st_Tree_DinitD_1, st_Tree_DinitD_2, e_Tree]
section
variable {FZway : Fn} {tZway : QT → (List IB) → (List Int) → Option (((List Int) × (Option Int)))} (ih : ∀ (rows : QT) (combo : (List IB)) (path : (List Int)), FZway [.val (e_tree rows), .val (.tup (List.map e_ib combo)), .val (.tup (List.map D.int path))] = (tZway rows combo path).bind fun r => some (.ret (.val (.tup [(.tup (List.map D.int r.1)), (eO D.int r.2)])) [.val (e_tree rows), .val (.tup (List.map e_ib combo)), .val (.tup (List.map D.int path))]))
include ih
theorem tstZway_1 {s1 s2 s3 : S} (rows : QT) {γ : Type} {kx : Xn → List S → Option γ} {k : Bool → List S → Option γ} : cps (tCmp (eEq (eIx (eVar 0) (eC (.int 0))) (eC (.str "end")))) [.val (e_tree rows), s1, s2, s3] kx k = k (decide ((QT.tag rows) = ("end" : Str))) [.val (e_tree rows), s1, s2, s3] := by
 simp? only [Tl.ob_some]
theorem stZway_1 {s1 s3 : S} (rows : QT) (path : (List Int)) : (sRtA [0, 1, 2, 3] (sRet (eTup (aCons (eVar 2) (aCons (eIx (eVar 0) (eC (.int 1))) aNil))))) [.val (e_tree rows), s1, (vT path), s3] = some (.rt (.val (.tup [(.tup (List.map D.int (path, (some (QT.num rows))).1)), (eO D.int (path, (some (QT.num rows))).2)])) [.no, .no, .no, .no]) := by
 simp? only [Tl.ob_some]
theorem tstZway_2 {s2 : S} (rows : QT) (combo : (List IB)) (k_ : Int) {γ : Type} {kx : Xn → List S → Option γ} {k : Bool → List S → Option γ} : cps tZway_1 [.val (e_tree rows), .val (.tup (List.map e_ib combo)), s2, (vI k_)] kx k = (atI combo (QT.num rows)).bind fun v3 => ((if (!(ibB v3)) = true then (atI combo (QT.num rows)).bind fun v4 => (QT.brs rows).bind fun v5 => (atI v5 k_).bind fun v6 => some (decide (ibN v4 ∈ v6.1)) else some false)).bind fun v7 => k (v7) [.val (e_tree rows), .val (.tup (List.map e_ib combo)), s2, (vI k_)] := by
 have ka : ∀ (a b : Bool) (ρ : List S), (if a = true then k b ρ else k false ρ) = k (a && b) ρ := fun a b ρ => by cases a <;> rfl
 have ko : ∀ (a b : Bool) (ρ : List S), (if a = true then k true ρ else k b ρ) = k (a || b) ρ := fun a b ρ => by cases a <;> rfl
 simp? only [tZway_1]
theorem tstZway_3 {s2 : S} (rows : QT) (combo : (List IB)) (k_ : Int) {γ : Type} {kx : Xn → List S → Option γ} {k : Bool → List S → Option γ} : cps tZway_1 [.val (e_tree rows), .val (.tup (List.map e_ib combo)), s2, (vI k_)] kx k = (atI combo (QT.num rows)).bind fun v3 => ((if (!(ibB v3)) = true then (atI combo (QT.num rows)).bind fun v4 => (QT.brs rows).bind fun v5 => (atI v5 k_).bind fun v6 => some (decide (ibN v4 ∈ v6.1)) else some false)).bind fun v7 => k v7 [.val (e_tree rows), .val (.tup (List.map e_ib combo)), s2, (vI k_)] := by
 simp? only [(tstZway_2 ih)]
theorem stZway_2 (rows : QT) (combo : (List IB)) (path : (List Int)) (k_ : Int) : (sRtA [0, 1, 2, 3] (sRet (eCall [false, false, false] FZway (aCons (eIx (eIx (eIx (eVar 0) (eC (.int 2))) (eVar 3)) (eC (.int 1))) (aCons (eVar 1) (aCons (eAdd (eVar 2) (eTup (aCons (eVar 3) aNil))) aNil)))))) [.val (e_tree rows), .val (.tup (List.map e_ib combo)), (vT path), (vI k_)] = (QT.brs rows).bind fun v8 => (atI v8 k_).bind fun v9 => (gz (List.length path + List.length [k_])).bind fun _ => (tZway v9.2 combo (path ++ [k_])).bind fun v10 => some (.rt (.val (.tup [(.tup (mI v10.1)), (eO D.int v10.2)])) [.no, .no, .no, .no]) := by
 have q0 := fun (v9 : ((List Int) × QT)) => ih v9.2 combo (path ++ [k_])
 try simp? only [Tl.ob_some] at q0
 simp? only [q0]
end
def tbZway_1 (tZway : QT → (List IB) → (List Int) → Option (((List Int) × (Option Int)))) (rows : QT) (combo : (List IB)) (path : (List Int)) (it : Int) (env : Unit) : Option (Cf Unit (((List Int) × (Option Int)))) := let k_ := it; (atI combo (QT.num rows)).bind fun v3 => ((if (!(ibB v3)) = true then (atI combo (QT.num rows)).bind fun v4 => (QT.brs rows).bind fun v5 => (atI v5 k_).bind fun v6 => some (decide (ibN v4 ∈ v6.1)) else some false)).bind fun v7 => if v7 = true then (QT.brs rows).bind fun v8 => (atI v8 k_).bind fun v9 => (gz (List.length path + List.length [k_])).bind fun _ => (tZway v9.2 combo (path ++ [k_])).bind fun v10 => some (.rt v10) else some (.nx ())
section
variable {FZway : Fn} {tZway : QT → (List IB) → (List Int) → Option (((List Int) × (Option Int)))} (ih : ∀ (rows : QT) (combo : (List IB)) (path : (List Int)), FZway [.val (e_tree rows), .val (.tup (List.map e_ib combo)), .val (.tup (List.map D.int path))] = (tZway rows combo path).bind fun r => some (.ret (.val (.tup [(.tup (List.map D.int r.1)), (eO D.int r.2)])) [.val (e_tree rows), .val (.tup (List.map e_ib combo)), .val (.tup (List.map D.int path))]))
include ih
theorem blZway_1 (rows : QT) (combo : (List IB)) (path : (List Int)) (it : Int) (env : Unit) : ((gN 3) (.int it) [.val (e_tree rows), .val (.tup (List.map e_ib combo)), (vT path), .no]).bind (bZway_1 FZway) = ((tbZway_1 tZway rows combo path) it env).bind fun o => some (cfO (fun env => [.val (e_tree rows), .val (.tup (List.map e_ib combo)), (vT path), .no]) (fun r => (.val (.tup [(.tup (mI r.1)), (eO D.int r.2)]))) (fun r => [.no, .no, .no, .no]) o) := by
 dsimp? only [bZway_1, tbZway_1, gT_eq, gsN_eq, gsC_eq, l_cons, l_nil, (tstZway_3 ih), (stZway_2 ih)]
theorem llZway_1 (rows : QT) (combo : (List IB)) (path : (List Int)) : (lZway_1 FZway) [.val (e_tree rows), .val (.tup (List.map e_ib combo)), (vT path), .no] = (QT.brs rows).bind fun v1 => (rngT ((List.length v1 : Nat) : Int)).bind fun v2 => (forT (tbZway_1 tZway rows combo path) v2 ()).bind fun o => some (lpO (fun env => [.val (e_tree rows), .val (.tup (List.map e_ib combo)), (vT path), .no]) (fun r => (.val (.tup [(.tup (mI r.1)), (eO D.int r.2)]))) (fun r => [.no, .no, .no, .no]) o) := by
 have hh := fun (rows : QT) (combo : (List IB)) (path : (List Int)) (xs : List Int) (env : Unit) => forL_cf (e := D.int) (st := fun (env : Unit) => [.val (e_tree rows), .val (.tup (List.map e_ib combo)), .val (.tup (List.map D.int path)), .no]) (rv := fun r => (.val (.tup [(.tup (List.map D.int r.1)), (eO D.int r.2)]))) (rs := fun r => [.no, .no, .no, .no]) (tg := (gN 3)) (body := (bZway_1 FZway)) (tb := (tbZway_1 tZway rows combo path)) xs env (fun x _ env => (blZway_1 ih) rows combo path x env)
 have hh := fun (rows : QT) (combo : (List IB)) (path : (List Int))  (xs : List Int) => hh rows combo path xs ()
 simp? only [lZway_1, sFor_eq] at hh ⊢
 simp? only [hh]
theorem stZway_3 {s0 s1 s3 : S} (path : (List Int)) : (sRtA [0, 1, 2, 3] (sRet (eTup (aCons (eVar 2) (aCons (eC .non) aNil))))) [s0, s1, (vT path), s3] = some (.rt (.val (.tup [(.tup (List.map D.int (path, (none : (Option Int))).1)), (eO D.int (path, (none : (Option Int))).2)])) [.no, .no, .no, .no]) := by
 simp? only [Tl.ob_some]
end
def tsZway (tZway : QT → (List IB) → (List Int) → Option (((List Int) × (Option Int)))) (rows : QT) (combo : (List IB)) (path : (List Int)) : Option (((List Int) × (Option Int))) := if (decide ((QT.tag rows) = ("end" : Str))) = true then some (path, (some (QT.num rows))) else (QT.brs rows).bind fun v1 => (rngT ((List.length v1 : Nat) : Int)).bind fun v2 => (forT (tbZway_1 tZway rows combo path) v2 ()).bind fun v12 => v12.k (fun env => some (path, (none : (Option Int)))) (fun r => some r)
def tZway : Nat → QT → (List IB) → (List Int) → Option (((List Int) × (Option Int)))
 | 0 => fun _ _ _ => none
 | n + 1 => tsZway (tZway n)
theorem eqZway : ∀ n, ∀ (rows : QT) (combo : (List IB)) (path : (List Int)), FnZway n [.val (e_tree rows), .val (.tup (List.map e_ib combo)), .val (.tup (List.map D.int path))] = (tZway n rows combo path).bind fun r => some (.ret (.val (.tup [(.tup (List.map D.int r.1)), (eO D.int r.2)])) [.val (e_tree rows), .val (.tup (List.map e_ib combo)), .val (.tup (List.map D.int path))])
 | 0 => fun _ _ _ => rfl
 | n + 1 => fun rows combo path => by
  have ih := eqZway n
  show mkFn _ _ _ _ = (tsZway (tZway n) rows combo path).bind _
  rw [mkFn_eq]
  dsimp? only [fZway, tsZway, Nat.reduceSub, Nat.reduceAdd, rtn_bind, rtn_ite, rtn_none, rtn_nx, rtn_rtv, rtn_rto, rtn_ex, rtn_k, post_n, post_v, post_o, l_cons, l_nil, r_succ, r_zero, a_cons, a_nil, (tstZway_1 ih), (stZway_1 ih), (llZway_1 ih), (stZway_3 ih)]
def t_is_integer_b : IB → Option Bool
 | .i _ => some true
 | .b _ => some false
theorem eq_is_integer_b : ∀ v : IB, Fn_is_integer [.val (e_ib v)] = (t_is_integer_b v).bind fun r => some (.ret (.val (.bl r)) [.val (e_ib v)]) := fun v => by
 cases v with
 | i n => exact eq_is_integer n
 | b x =>
  show mkFn _ _ _ _ = _
  rw [mkFn_eq]
  simp? only [f_is_integer, e_is_integer_1, t_is_integer_b, sSeq_eq, sq_none, sq_nx, sq_rt, sq_ct, sq_bk, sq_ex, sq_bind, sq_ite, sq_lpO, sq_k, sIf_eq, sNil_eq, sPass_eq, sBreak_eq, sCont_eq, sNever_eq, sFore_eq, sAft_eq, aq_bind, aq_ite, aq_none, aq_nx, aq_ct, aq_bk, aq_rt, aq_ex, aq_k, aq_lpO, nrm_n, nrm_k, nrm_f, frz1_o, frz1_v, frz1_n, g_zero, g_succ, s_zero, s_succ, ob_some, ob_none, ob_assoc, ob_ite, ob_k, om_eq, ite_T, ite_F, tt_true, ft_false, gN_eq, cfO_nx, cfO_ct, cfO_bk, cfO_rt, rq_none, sq_lpX, aq_lpX, cfX_nx, cfX_ct, cfX_bk, cfX_rt, Nat.reduceSub, Nat.reduceAdd, rtn_bind, rtn_ite, rtn_none, rtn_nx, rtn_rtv, rtn_rto, rtn_ex, rtn_k, post_n, post_v, post_o, l_cons, l_nil, r_succ, r_zero, a_cons, a_nil]
def t_is_number_b : IB → Option Bool
 | .i n => t_is_number n
 | .b _ => some false
theorem eq_is_number_b : ∀ v : IB, Fn_is_number [.val (e_ib v)] = (t_is_number_b v).bind fun r => some (.ret (.val (.bl r)) [.val (e_ib v)]) := fun v => by
 cases v with
 | i n => exact eq_is_number n
 | b x =>
  have q := eq_is_integer_b (.b x)
  simp only [e_ib_b, t_is_integer_b] at q
  show mkFn _ _ _ _ = _
  rw [mkFn_eq]
  simp? only [f_is_number, e_is_number_1, t_is_number_b, q, sSeq_eq, sq_none, sq_nx, sq_rt, sq_ct, sq_bk, sq_ex, sq_bind, sq_ite, sq_lpO, sq_k, sIf_eq, sNil_eq, sPass_eq, sBreak_eq, sCont_eq, sNever_eq, sFore_eq, sAft_eq, aq_bind, aq_ite, aq_none, aq_nx, aq_ct, aq_bk, aq_rt, aq_ex, aq_k, aq_lpO, nrm_n, nrm_k, nrm_f, frz1_o, frz1_v, frz1_n, g_zero, g_succ, s_zero, s_succ, ob_some, ob_none, ob_assoc, ob_ite, ob_k, om_eq, ite_T, ite_F, tt_true, ft_false, gN_eq, cfO_nx, cfO_ct, cfO_bk, cfO_rt, rq_none, sq_lpX, aq_lpX, cfX_nx, cfX_ct, cfX_bk, cfX_rt, Nat.reduceSub, Nat.reduceAdd, rtn_bind, rtn_ite, rtn_none, rtn_nx, rtn_rtv, rtn_rto, rtn_ex, rtn_k, post_n, post_v, post_o, l_cons, l_nil, r_succ, r_zero, a_cons, a_nil]
theorem tst_branch_of_1 {s0 s2 s4 : S} (standing : IB) (cell : (List Int)) {γ : Type} {kx : Xn → List S → Option γ} {k : Bool → List S → Option γ} : cps (t_branch_of_1 Fn_is_number) [s0, .val (e_ib standing), s2, (vT cell), s4] kx k = (t_is_number_b standing).bind fun v3 => k ((v3 && (decide (ibN standing ∈ cell)))) [s0, .val (e_ib standing), s2, (vT cell), s4] := by
 have ka : ∀ (a b : Bool) (ρ : List S), (if a = true then k b ρ else k false ρ) = k (a && b) ρ := fun a b ρ => by cases a <;> rfl
 have ko : ∀ (a b : Bool) (ρ : List S), (if a = true then k true ρ else k b ρ) = k (a || b) ρ := fun a b ρ => by cases a <;> rfl
 simp? only [t_branch_of_1, eq_is_number_b, ka, ko]
theorem tst_branch_of_2 {s0 s2 s4 : S} (standing : IB) (cell : (List Int)) {γ : Type} {kx : Xn → List S → Option γ} {k : Bool → List S → Option γ} : cps (t_branch_of_1 Fn_is_number) [s0, .val (e_ib standing), s2, (vT cell), s4] kx k = (t_is_number_b standing).bind fun v3 => k (v3 && (decide (ibN standing ∈ cell))) [s0, .val (e_ib standing), s2, (vT cell), s4] := by
 simp? only [tst_branch_of_1]
theorem st_branch_of_1 {s0 s1 s3 s4 : S} (branch : Int) : (sRtA [0, 1, 2, 3, 4] (sRet (eVar 2))) [s0, s1, (vI branch), s3, s4] = some (.rt (.val (eO D.int (some branch))) [.no, .no, .no, .no, .no]) := by
 simp? only [Tl.ob_some]
def tb_branch_of_1 (standing : IB) (it : (Int × ((List Int) × QT))) (env : Unit) : Option (Cf Unit ((Option Int))) := let branch := it.1; let cell := it.2.1; let behind := it.2.2; (t_is_number_b standing).bind fun v3 => if (v3 && (decide (ibN standing ∈ cell))) = true then some (.rt (some branch)) else some (.nx ())
theorem bl_branch_of_1 {s0 : S} (standing : IB) (it : (Int × ((List Int) × QT))) (env : Unit) : ((gT 2 (gsCons (gN 2) (gsCons (gT 2 (gsCons (gN 3) (gsCons (gN 4) gsNil))) gsNil))) (.tup [(.int it.1), (.tup [(.tup (mI it.2.1)), (e_tree it.2.2)])]) [s0, .val (e_ib standing), .no, .no, .no]).bind (b_branch_of_1 Fn_is_number) = ((tb_branch_of_1 standing) it env).bind fun o => some (cfO (fun env => [s0, .val (e_ib standing), .no, .no, .no]) (fun r => (.val (eO D.int r))) (fun r => [.no, .no, .no, .no, .no]) o) := by
 dsimp? only [b_branch_of_1, tb_branch_of_1, gT_eq, gsN_eq, gsC_eq, l_cons, l_nil, tst_branch_of_2, st_branch_of_1]
theorem ll_branch_of_1 (rows : QT) (standing : IB) : (l_branch_of_1 Fn_is_number) [.val (e_tree rows), .val (e_ib standing), .no, .no, .no] = (QT.brs rows).bind fun v1 => (enuT v1).bind fun v2 => (forT (tb_branch_of_1 standing) v2 ()).bind fun o => some (lpO (fun env => [.val (e_tree rows), .val (e_ib standing), .no, .no, .no]) (fun r => (.val (eO D.int r))) (fun r => [.no, .no, .no, .no, .no]) o) := by
 have hh := fun (standing : IB) (xs : List (Int × ((List Int) × QT))) (env : Unit) => forL_cf (e := (fun (x : (Int × ((List Int) × QT))) => (D.tup [(.int x.1), (.tup [(.tup (List.map D.int x.2.1)), (e_tree x.2.2)])]))) (st := fun (env : Unit) => [.val (e_tree rows), .val (e_ib standing), .no, .no, .no]) (rv := fun r => (.val (eO D.int r))) (rs := fun r => [.no, .no, .no, .no, .no]) (tg := (gT 2 (gsCons (gN 2) (gsCons (gT 2 (gsCons (gN 3) (gsCons (gN 4) gsNil))) gsNil)))) (body := (b_branch_of_1 Fn_is_number)) (tb := (tb_branch_of_1 standing)) xs env (fun x _ env => bl_branch_of_1 standing x env)
 have hh := fun (standing : IB)  (xs : List (Int × ((List Int) × QT))) => hh standing xs ()
 simp? only [l_branch_of_1, sFor_eq] at hh ⊢
 simp? only [hh]
theorem st_branch_of_2 {s0 s1 s2 s3 s4 : S}  : (sRtA [0, 1, 2, 3, 4] (sRet (eC .non))) [s0, s1, s2, s3, s4] = some (.rt (.val (eO D.int (none : (Option Int)))) [.no, .no, .no, .no, .no]) := by
 simp? only [Tl.ob_some]
def t_branch_of (rows : QT) (standing : IB) : Option ((Option Int)) := (QT.brs rows).bind fun v1 => (enuT v1).bind fun v2 => (forT (tb_branch_of_1 standing) v2 ()).bind fun v5 => v5.k (fun env => some (none : (Option Int))) (fun r => some r)
theorem eq_branch_of : ∀ (rows : QT) (standing : IB), Fn_branch_of [.val (e_tree rows), .val (e_ib standing)] = (t_branch_of rows standing).bind fun r => some (.ret (.val (eO D.int r)) [.val (e_tree rows), .val (e_ib standing)]) := fun rows standing => by
 show mkFn _ _ _ _ = _
 rw [mkFn_eq]
 dsimp? only [f_branch_of, t_branch_of, Nat.reduceSub, Nat.reduceAdd, rtn_bind, rtn_ite, rtn_none, rtn_nx, rtn_rtv, rtn_rto, rtn_ex, rtn_k, post_n, post_v, post_o, l_cons, l_nil, r_succ, r_zero, a_cons, a_nil, ll_branch_of_1, st_branch_of_2]
theorem st_Tree_DcallD_x_1 {s1 s3 s4 : S} (self : T_Tree) : (sSet 2 2 (eFld ["Tree"] "rows" (eVar 0))) [.val (e_Tree self), s1, .no, s3, s4] = some (.nx [.val (e_Tree self), s1, .val (e_tree self.rows), s3, s4]) := by
 simp? only [Tl.ob_some]
theorem st_Tree_DcallD_x_2 {s0 s1 s2 s4 : S}  : (sSet 2 3 (eTup aNil)) [s0, s1, s2, .no, s4] = some (.nx [s0, s1, s2, .val (.tup (List.map (fun x => (eO D.int x)) ([] : List (Option Int)))), s4]) := by
 simp? only [Tl.ob_some]
theorem st_Tree_DcallD_x_3 {s0 s3 : S} (combination : (List IB)) (rows : QT) : (sSet 2 4 (eCall [false, false] Fn_branch_of (aCons (eVar 2) (aCons (eIx (eVar 1) (eIx (eVar 2) (eC (.int 1)))) aNil)))) [s0, .val (.tup (List.map e_ib combination)), .val (e_tree rows), s3, .no] = (atI combination (QT.num rows)).bind fun v1 => (t_branch_of rows v1).bind fun v2 => some (.nx [s0, .val (.tup (List.map e_ib combination)), .val (e_tree rows), s3, .val (eO D.int v2)]) := by
 simp? only [eq_branch_of]
theorem tst_Tree_DcallD_x_1 {s0 s1 s2 s3 : S} (branch : (Option Int)) {γ : Type} {kx : Xn → List S → Option γ} {k : Bool → List S → Option γ} : cps (tCmp (eIs (eVar 4) (eC .non))) [s0, s1, s2, s3, .val (eO D.int branch)] kx k = k (branch.isNone) [s0, s1, s2, s3, .val (eO D.int branch)] := by
 simp? only [Tl.ob_some]
theorem st_Tree_DcallD_x_4 {s0 s1 s2 s4 : S} (path : (List (Option Int))) : (sRtA [0, 1, 2, 3, 4] (sRaiseF "BadAnswer" "path" (aCons (eVar 3) aNil))) [s0, s1, s2, .val (.tup (List.map (fun x => (eO D.int x)) path)), s4] = some (.ex ⟨"BadAnswer", ["path"], [(.tup (List.map (fun x => (eO D.int x)) path))]⟩ [.no, .no, .no, .no, .no]) := by
 simp? only [Tl.ob_some]
theorem st_Tree_DcallD_x_5 {s0 s1 s3 : S} (rows : QT) (branch : (Option Int)) : (sSet 2 2 (eIx (eIx (eIx (eVar 2) (eC (.int 2))) (eUn (eVar 4))) (eC (.int 1)))) [s0, s1, .val (e_tree rows), s3, .val (eO D.int branch)] = (QT.brs rows).bind fun v3 => (branch).bind fun v4 => (atI v3 v4).bind fun v5 => some (.nx [s0, s1, .val (e_tree v5.2), s3, .val (eO D.int branch)]) := by
 simp? only [(un_o (e := D.int) (fun _ => rfl))]
theorem st_Tree_DcallD_x_6 {s0 s1 s2 : S} (path : (List (Option Int))) (branch : (Option Int)) : (sSet 2 3 (eTup (aStar (eVar 3) (aCons (eVar 4) aNil)))) [s0, s1, s2, .val (.tup (List.map (fun x => (eO D.int x)) path)), .val (eO D.int branch)] = (gz (List.length (path ++ ([branch])))).bind fun _ => some (.nx [s0, s1, s2, .val (.tup (List.map (fun x => (eO D.int x)) (path ++ ([branch])))), .val (eO D.int branch)]) := by
 simp? only [Tl.ob_some]
def tb_Tree_DcallD_x_1 (combination : (List IB)) (env : Ty0_) : Option (Cf Ty0_ ((List (Option Int)))) := let rows := env.1; let path := env.2; (atI combination (QT.num rows)).bind fun v1 => (t_branch_of rows v1).bind fun v2 => let branch := v2; if (branch.isNone) = true then some (.rt path) else (QT.brs rows).bind fun v3 => (branch).bind fun v4 => (atI v3 v4).bind fun v5 => let rows := v5.2; (gz (List.length (path ++ ([branch])))).bind fun _ => let path := (path ++ ([branch])); some (.nx (rows, path))
def tw_Tree_DcallD_x_1 (combination : (List IB)) (env : Ty0_) : Option Bool := let rows := env.1; let path := env.2; some (decide ((QT.tag rows) = ("ask" : Str)))
theorem bl_Tree_DcallD_x_1 {s0 : S} (combination : (List IB)) (env : Ty0_) : (b_Tree_DcallD_x_1 Fn_branch_of) [s0, .val (.tup (List.map e_ib combination)), .val (e_tree env.1), .val (.tup (List.map (fun x => (eO D.int x)) env.2)), .no] = ((tb_Tree_DcallD_x_1 combination) env).bind fun o => some (cfX (fun env => [s0, .val (.tup (List.map e_ib combination)), .val (e_tree env.1), .val (.tup (List.map (fun x => (eO D.int x)) env.2)), .no]) (fun r => ⟨"BadAnswer", ["path"], [(.tup (List.map (fun x => (eO D.int x)) r))]⟩) (fun r => [.no, .no, .no, .no, .no]) o) := by
 dsimp? only [b_Tree_DcallD_x_1, tb_Tree_DcallD_x_1, gT_eq, gsN_eq, gsC_eq, l_cons, l_nil, st_Tree_DcallD_x_3, tst_Tree_DcallD_x_1, st_Tree_DcallD_x_4, st_Tree_DcallD_x_5, st_Tree_DcallD_x_6]
theorem wl_Tree_DcallD_x_1 {s0 : S} (combination : (List IB)) (env : Ty0_) : (tCmp (eEq (eIx (eVar 2) (eC (.int 0))) (eC (.str "ask")))) [s0, .val (.tup (List.map e_ib combination)), .val (e_tree env.1), .val (.tup (List.map (fun x => (eO D.int x)) env.2)), .no] = ((tw_Tree_DcallD_x_1 combination) env).bind fun o => some (.ok o [s0, .val (.tup (List.map e_ib combination)), .val (e_tree env.1), .val (.tup (List.map (fun x => (eO D.int x)) env.2)), .no]) := by
 refine (cps_self ((tCmp (eEq (eIx (eVar 2) (eC (.int 0))) (eC (.str "ask")))) : M Bool) [s0, .val (.tup (List.map e_ib combination)), .val (e_tree env.1), .val (.tup (List.map (fun x => (eO D.int x)) env.2)), .no]).trans ?_
 simp? only [tw_Tree_DcallD_x_1]
theorem ll_Tree_DcallD_x_1 {s0 : S} (combination : (List IB)) (rows : QT) (path : (List (Option Int))) : (l_Tree_DcallD_x_1 Fn_branch_of) [s0, .val (.tup (List.map e_ib combination)), .val (e_tree rows), .val (.tup (List.map (fun x => (eO D.int x)) path)), .no] = (whT (tw_Tree_DcallD_x_1 combination) (tb_Tree_DcallD_x_1 combination) (rows, path)).bind fun o => some (lpX (fun env => [s0, .val (.tup (List.map e_ib combination)), .val (e_tree env.1), .val (.tup (List.map (fun x => (eO D.int x)) env.2)), .no]) (fun r => ⟨"BadAnswer", ["path"], [(.tup (List.map (fun x => (eO D.int x)) r))]⟩) (fun r => [.no, .no, .no, .no, .no]) o) := by
 have hh := whL_cx (st := fun (env : Ty0_) => [s0, .val (.tup (List.map e_ib combination)), .val (e_tree env.1), .val (.tup (List.map (fun x => (eO D.int x)) env.2)), .no]) (xv := fun r => ⟨"BadAnswer", ["path"], [(.tup (List.map (fun x => (eO D.int x)) r))]⟩) (rs := fun r => [.no, .no, .no, .no, .no]) (g := (tCmp (eEq (eIx (eVar 2) (eC (.int 0))) (eC (.str "ask"))))) (bd := (b_Tree_DcallD_x_1 Fn_branch_of)) (test := (tw_Tree_DcallD_x_1 combination)) (body := (tb_Tree_DcallD_x_1 combination)) (fun env => wl_Tree_DcallD_x_1 combination env) (fun env => bl_Tree_DcallD_x_1 combination env) (rows, path)
 exact hh
def t_Tree_DcallD_x (self : T_Tree) (combination : (List IB)) : Option ((List (Option Int))) := let rows := self.rows; let path := ([] : List (Option Int)); (whT (tw_Tree_DcallD_x_1 combination) (tb_Tree_DcallD_x_1 combination) (rows, path)).bind fun v6 => v6.k (fun env => let rows := env.1; let path := env.2; none) (fun r => some r)
theorem eq_Tree_DcallD_x : ∀ (self : T_Tree) (combination : (List IB)), Fn_Tree_DcallD_x [.val (e_Tree self), .val (.tup (List.map e_ib combination))] = (t_Tree_DcallD_x self combination).bind fun r => some (.ex ⟨"BadAnswer", ["path"], [(.tup (List.map (fun x => (eO D.int x)) r))]⟩ [.val (e_Tree self), .val (.tup (List.map e_ib combination))]) := fun self combination => by
 show mkFn _ _ _ _ = _
 rw [mkFn_eq]
 dsimp? only [f_Tree_DcallD_x, t_Tree_DcallD_x, Nat.reduceSub, Nat.reduceAdd, rtn_bind, rtn_ite, rtn_none, rtn_nx, rtn_rtv, rtn_rto, rtn_ex, rtn_k, post_n, post_v, post_o, l_cons, l_nil, r_succ, r_zero, a_cons, a_nil, st_Tree_DcallD_x_1, st_Tree_DcallD_x_2, ll_Tree_DcallD_x_1]
def tZsame (a b : D) : Option Bool := if (plainN 40 a && plainN 40 b) = true then some (sameB a b) else none
def FnZsame : Fn
 | [.val a, .val b] => (tZsame a b).bind fun r => some (.ret (.val (.bl r)) [.val a, .val b])
 | _ => none
theorem eqZsame (a b : D) : FnZsame [.val a, .val b] = (tZsame a b).bind fun r => some (.ret (.val (.bl r)) [.val a, .val b]) := rfl
theorem leZsame : Fn.le FnZsame (FnR_same 40) := fun ss o h => by
 unfold FnZsame at h
 split at h
 · rename_i a b
   obtain ⟨r, e, h⟩ := Option.bind_eq_some_iff.mp h
   cases h
   unfold tZsame at e
   split at e
   · rename_i hp
     cases e
     obtain ⟨h1, h2⟩ := Bool.and_eq_true_iff.mp hp
     exact same_true 40 a b h1 h2
   · cases e
 · cases h
theorem isF_BadAnswer_BadRule (a dx : Addr) (ns : List Str) (ds : List D) : gIsF a dx tc_BadAnswer tt_BadAnswer [.xob a dx ns ds, .cls "BadRule"] = some (.val (.bl false)) := by
 have h : tc_BadAnswer.lookup ("BadRule" : Str) = some false := by decide +kernel
 show (if a = a ∧ dx = dx then (tc_BadAnswer.lookup ("BadRule" : Str)).map (fun q => Rv.val (D.bl q)) else none) = _
 rw [if_pos ⟨rfl, rfl⟩, h]; rfl
theorem isF_BadAnswer_BadBox (a dx : Addr) (ns : List Str) (ds : List D) : gIsF a dx tc_BadAnswer tt_BadAnswer [.xob a dx ns ds, .cls "BadBox"] = some (.val (.bl false)) := by
 have h : tc_BadAnswer.lookup ("BadBox" : Str) = some false := by decide +kernel
 show (if a = a ∧ dx = dx then (tc_BadAnswer.lookup ("BadBox" : Str)).map (fun q => Rv.val (D.bl q)) else none) = _
 rw [if_pos ⟨rfl, rfl⟩, h]; rfl
theorem isF_BadAnswer_BadTree (a dx : Addr) (ns : List Str) (ds : List D) : gIsF a dx tc_BadAnswer tt_BadAnswer [.xob a dx ns ds, .cls "BadTree"] = some (.val (.bl false)) := by
 have h : tc_BadAnswer.lookup ("BadTree" : Str) = some false := by decide +kernel
 show (if a = a ∧ dx = dx then (tc_BadAnswer.lookup ("BadTree" : Str)).map (fun q => Rv.val (D.bl q)) else none) = _
 rw [if_pos ⟨rfl, rfl⟩, h]; rfl
theorem isF_BadAnswer_BadTurn (a dx : Addr) (ns : List Str) (ds : List D) : gIsF a dx tc_BadAnswer tt_BadAnswer [.xob a dx ns ds, .cls "BadTurn"] = some (.val (.bl false)) := by
 have h : tc_BadAnswer.lookup ("BadTurn" : Str) = some false := by decide +kernel
 show (if a = a ∧ dx = dx then (tc_BadAnswer.lookup ("BadTurn" : Str)).map (fun q => Rv.val (D.bl q)) else none) = _
 rw [if_pos ⟨rfl, rfl⟩, h]; rfl
theorem isF_BadAnswer_BadRow (a dx : Addr) (ns : List Str) (ds : List D) : gIsF a dx tc_BadAnswer tt_BadAnswer [.xob a dx ns ds, .cls "BadRow"] = some (.val (.bl false)) := by
 have h : tc_BadAnswer.lookup ("BadRow" : Str) = some false := by decide +kernel
 show (if a = a ∧ dx = dx then (tc_BadAnswer.lookup ("BadRow" : Str)).map (fun q => Rv.val (D.bl q)) else none) = _
 rw [if_pos ⟨rfl, rfl⟩, h]; rfl
theorem isF_BadAnswer_AskError (a dx : Addr) (ns : List Str) (ds : List D) : gIsF a dx tc_BadAnswer tt_BadAnswer [.xob a dx ns ds, .cls "AskError"] = some (.val (.bl true)) := by
 have h : tc_BadAnswer.lookup ("AskError" : Str) = some true := by decide +kernel
 show (if a = a ∧ dx = dx then (tc_BadAnswer.lookup ("AskError" : Str)).map (fun q => Rv.val (D.bl q)) else none) = _
 rw [if_pos ⟨rfl, rfl⟩, h]; rfl
theorem isF_BadAnswer_ValueError (a dx : Addr) (ns : List Str) (ds : List D) : gIsF a dx tc_BadAnswer tt_BadAnswer [.xob a dx ns ds, .ty "ValueError"] = some (.val (.bl true)) := by
 have h : tt_BadAnswer.lookup ("ValueError" : String) = some true := by decide +kernel
 show (if a = a ∧ dx = dx then (tt_BadAnswer.lookup ("ValueError" : String)).map (fun q => Rv.val (D.bl q)) else none) = _
 rw [if_pos ⟨rfl, rfl⟩, h]; rfl
theorem fnB_same (d p : D) : fnB FnZsame d p = tZsame d p := by
 unfold fnB; rw [eqZsame]; cases tZsame d p <;> rfl
theorem keepB_same : KeepB FnZsame := fun d p b h => by
 rw [fnB_same] at h
 rw [eqZsame, h]; rfl
def FnZrefused : Fn := mkFn 3 4 (fZrefused Fn_Tree_DcallD_x FnZsame)
theorem sulZrefused_1 {FZsame : Fn} (hK : KeepB FZsame) (a dx : Addr) (ρ : List S) (d p : D) (b : Bool) (hl : ρ.length = 4) (hj : ρ[2]? = some (.val p)) (h : fnB FZsame d p = some b) : suZrefused_1 FZsame a dx (ρ.set 3 (.val (.xob a dx ["path"] [d]))) = some (.rt (.val (.bl b)) (kil [0, 1, 2, 3] ρ)) := by
 match ρ, hl with
 | [s0, s1, s2, s3], _ =>
  have hj2 : s2 = .val p := Option.some.inj hj
  subst hj2
  have h := hK d p b h
  show suZrefused_1 FZsame a dx [s0, s1, .val p, .val (.xob a dx ["path"] [d])] = some (.rt (.val (.bl b)) [.no, .no, .no, .no])
  simp? only [suZrefused_1, isF_BadAnswer_BadRule, isF_BadAnswer_BadBox, isF_BadAnswer_BadTree, isF_BadAnswer_BadTurn, isF_BadAnswer_BadRow, isF_BadAnswer_AskError, isF_BadAnswer_ValueError, h, sSeq_eq, sq_none, sq_nx, sq_rt, sq_ct, sq_bk, sq_ex, sq_bind, sq_ite, sq_lpO, sq_k, sIf_eq, sNil_eq, sPass_eq, sBreak_eq, sCont_eq, sNever_eq, sFore_eq, sAft_eq, aq_bind, aq_ite, aq_none, aq_nx, aq_ct, aq_bk, aq_rt, aq_ex, aq_k, aq_lpO, nrm_n, nrm_k, nrm_f, frz1_o, frz1_v, frz1_n, g_zero, g_succ, s_zero, s_succ, ob_some, ob_none, ob_assoc, ob_ite, ob_k, om_eq, ite_T, ite_F, tt_true, ft_false, gN_eq, cfO_nx, cfO_ct, cfO_bk, cfO_rt, rq_none, sq_lpX, aq_lpX, cfX_nx, cfX_ct, cfX_bk, cfX_rt, Nat.reduceSub, Nat.reduceAdd, rtn_bind, rtn_ite, rtn_none, rtn_nx, rtn_rtv, rtn_rto, rtn_ex, rtn_k, post_n, post_v, post_o, l_cons, l_nil, r_succ, r_zero, a_cons, a_nil]
theorem stZrefused_1 (tree : T_Tree) (combo : (List IB)) (path : (List Int)) : (sTry (hit1 "BadAnswer") (sExpr (eOwnCall "Tree" [false, false] Fn_Tree_DcallD_x (eVar 0) (aCons (eVar 1) aNil))) (suI "BadAnswer" "path" FnZsame 4 3 2 [0, 1, 2, 3])) [.val (e_Tree tree), .val (.tup (List.map e_ib combo)), (vT path), .no] = (t_Tree_DcallD_x tree combo).bind fun v1 => (tZsame (D.tup (List.map (fun x => (eO D.int x)) v1)) (D.tup (mI path))).bind fun v2 => some (.rt (.val (.bl v2)) [.no, .no, .no, .no]) := by
 simp? only [eq_Tree_DcallD_x, fnB_same]
def tZrefused (tree : T_Tree) (combo : (List IB)) (path : (List Int)) : Option (Bool) := (t_Tree_DcallD_x tree combo).bind fun v1 => (tZsame (D.tup (List.map (fun x => (eO D.int x)) v1)) (D.tup (List.map D.int path))).bind fun v2 => some v2
theorem eqZrefused : ∀ (tree : T_Tree) (combo : (List IB)) (path : (List Int)), FnZrefused [.val (e_Tree tree), .val (.tup (List.map e_ib combo)), .val (.tup (List.map D.int path))] = (tZrefused tree combo path).bind fun r => some (.ret (.val (.bl r)) [.val (e_Tree tree), .val (.tup (List.map e_ib combo)), .val (.tup (List.map D.int path))]) := fun tree combo path => by
 show mkFn _ _ _ _ = _
 rw [mkFn_eq]
 dsimp? only [fZrefused, tZrefused, Nat.reduceSub, Nat.reduceAdd, rtn_bind, rtn_ite, rtn_none, rtn_nx, rtn_rtv, rtn_rto, rtn_ex, rtn_k, post_n, post_v, post_o, l_cons, l_nil, r_succ, r_zero, a_cons, a_nil, stZrefused_1]
theorem st_Tree_DcallD_1 {s1 s3 s4 : S} (self : T_Tree) : (sSet 2 2 (eFld ["Tree"] "rows" (eVar 0))) [.val (e_Tree self), s1, .no, s3, s4] = some (.nx [.val (e_Tree self), s1, .val (e_tree self.rows), s3, s4]) := by
 simp? only [Tl.ob_some]
theorem st_Tree_DcallD_2 {s0 s1 s2 s4 : S}  : (sSet 2 3 (eTup aNil)) [s0, s1, s2, .no, s4] = some (.nx [s0, s1, s2, .val (.tup (List.map (fun x => (eO D.int x)) ([] : List (Option Int)))), s4]) := by
 simp? only [Tl.ob_some]
theorem st_Tree_DcallD_3 {s0 s3 : S} (combination : (List IB)) (rows : QT) : (sSet 2 4 (eCall [false, false] Fn_branch_of (aCons (eVar 2) (aCons (eIx (eVar 1) (eIx (eVar 2) (eC (.int 1)))) aNil)))) [s0, .val (.tup (List.map e_ib combination)), .val (e_tree rows), s3, .no] = (atI combination (QT.num rows)).bind fun v1 => (t_branch_of rows v1).bind fun v2 => some (.nx [s0, .val (.tup (List.map e_ib combination)), .val (e_tree rows), s3, .val (eO D.int v2)]) := by
 simp? only [eq_branch_of]
theorem tst_Tree_DcallD_1 {s0 s1 s2 s3 : S} (branch : (Option Int)) {γ : Type} {kx : Xn → List S → Option γ} {k : Bool → List S → Option γ} : cps (tCmp (eIs (eVar 4) (eC .non))) [s0, s1, s2, s3, .val (eO D.int branch)] kx k = k (branch.isNone) [s0, s1, s2, s3, .val (eO D.int branch)] := by
 simp? only [Tl.ob_some]
theorem st_Tree_DcallD_4 {s0 s1 s3 : S} (rows : QT) (branch : (Option Int)) : (sSet 2 2 (eIx (eIx (eIx (eVar 2) (eC (.int 2))) (eUn (eVar 4))) (eC (.int 1)))) [s0, s1, .val (e_tree rows), s3, .val (eO D.int branch)] = (QT.brs rows).bind fun v3 => (branch).bind fun v4 => (atI v3 v4).bind fun v5 => some (.nx [s0, s1, .val (e_tree v5.2), s3, .val (eO D.int branch)]) := by
 simp? only [(un_o (e := D.int) (fun _ => rfl))]
theorem st_Tree_DcallD_5 {s0 s1 s2 : S} (path : (List (Option Int))) (branch : (Option Int)) : (sSet 2 3 (eTup (aStar (eVar 3) (aCons (eVar 4) aNil)))) [s0, s1, s2, .val (.tup (List.map (fun x => (eO D.int x)) path)), .val (eO D.int branch)] = (gz (List.length (path ++ ([branch])))).bind fun _ => some (.nx [s0, s1, s2, .val (.tup (List.map (fun x => (eO D.int x)) (path ++ ([branch])))), .val (eO D.int branch)]) := by
 simp? only [Tl.ob_some]
def tb_Tree_DcallD_1 (combination : (List IB)) (env : Ty0_) : Option (Cf Ty0_ (Int)) := let rows := env.1; let path := env.2; (atI combination (QT.num rows)).bind fun v1 => (t_branch_of rows v1).bind fun v2 => let branch := v2; if (branch.isNone) = true then none else (QT.brs rows).bind fun v3 => (branch).bind fun v4 => (atI v3 v4).bind fun v5 => let rows := v5.2; (gz (List.length (path ++ ([branch])))).bind fun _ => let path := (path ++ ([branch])); some (.nx (rows, path))
def tw_Tree_DcallD_1 (combination : (List IB)) (env : Ty0_) : Option Bool := let rows := env.1; let path := env.2; some (decide ((QT.tag rows) = ("ask" : Str)))
theorem bl_Tree_DcallD_1 {s0 : S} (combination : (List IB)) (env : Ty0_) : (b_Tree_DcallD_1 Fn_branch_of) [s0, .val (.tup (List.map e_ib combination)), .val (e_tree env.1), .val (.tup (List.map (fun x => (eO D.int x)) env.2)), .no] = ((tb_Tree_DcallD_1 combination) env).bind fun o => some (cfO (fun env => [s0, .val (.tup (List.map e_ib combination)), .val (e_tree env.1), .val (.tup (List.map (fun x => (eO D.int x)) env.2)), .no]) (fun r => (.val (.int r))) (fun r => [.no, .no, .no, .no, .no]) o) := by
 dsimp? only [b_Tree_DcallD_1, tb_Tree_DcallD_1, gT_eq, gsN_eq, gsC_eq, l_cons, l_nil, st_Tree_DcallD_3, tst_Tree_DcallD_1, st_Tree_DcallD_4, st_Tree_DcallD_5]
theorem wl_Tree_DcallD_1 {s0 : S} (combination : (List IB)) (env : Ty0_) : (tCmp (eEq (eIx (eVar 2) (eC (.int 0))) (eC (.str "ask")))) [s0, .val (.tup (List.map e_ib combination)), .val (e_tree env.1), .val (.tup (List.map (fun x => (eO D.int x)) env.2)), .no] = ((tw_Tree_DcallD_1 combination) env).bind fun o => some (.ok o [s0, .val (.tup (List.map e_ib combination)), .val (e_tree env.1), .val (.tup (List.map (fun x => (eO D.int x)) env.2)), .no]) := by
 refine (cps_self ((tCmp (eEq (eIx (eVar 2) (eC (.int 0))) (eC (.str "ask")))) : M Bool) [s0, .val (.tup (List.map e_ib combination)), .val (e_tree env.1), .val (.tup (List.map (fun x => (eO D.int x)) env.2)), .no]).trans ?_
 simp? only [tw_Tree_DcallD_1]
theorem ll_Tree_DcallD_1 {s0 : S} (combination : (List IB)) (rows : QT) (path : (List (Option Int))) : (l_Tree_DcallD_1 Fn_branch_of) [s0, .val (.tup (List.map e_ib combination)), .val (e_tree rows), .val (.tup (List.map (fun x => (eO D.int x)) path)), .no] = (whT (tw_Tree_DcallD_1 combination) (tb_Tree_DcallD_1 combination) (rows, path)).bind fun o => some (lpO (fun env => [s0, .val (.tup (List.map e_ib combination)), .val (e_tree env.1), .val (.tup (List.map (fun x => (eO D.int x)) env.2)), .no]) (fun r => (.val (.int r))) (fun r => [.no, .no, .no, .no, .no]) o) := by
 have hh := whL_cf (st := fun (env : Ty0_) => [s0, .val (.tup (List.map e_ib combination)), .val (e_tree env.1), .val (.tup (List.map (fun x => (eO D.int x)) env.2)), .no]) (rv := fun r => (.val (.int r))) (rs := fun r => [.no, .no, .no, .no, .no]) (g := (tCmp (eEq (eIx (eVar 2) (eC (.int 0))) (eC (.str "ask"))))) (bd := (b_Tree_DcallD_1 Fn_branch_of)) (test := (tw_Tree_DcallD_1 combination)) (body := (tb_Tree_DcallD_1 combination)) (fun env => wl_Tree_DcallD_1 combination env) (fun env => bl_Tree_DcallD_1 combination env) (rows, path)
 exact hh
theorem st_Tree_DcallD_6 {s0 s1 s3 s4 : S} (rows : QT) : (sRtA [0, 1, 2, 3, 4] (sRet (eIx (eVar 2) (eC (.int 1))))) [s0, s1, .val (e_tree rows), s3, s4] = some (.rt (.val (.int (QT.num rows))) [.no, .no, .no, .no, .no]) := by
 simp? only [Tl.ob_some]
def t_Tree_DcallD (self : T_Tree) (combination : (List IB)) : Option (Int) := let rows := self.rows; let path := ([] : List (Option Int)); (whT (tw_Tree_DcallD_1 combination) (tb_Tree_DcallD_1 combination) (rows, path)).bind fun v6 => v6.k (fun env => let rows := env.1; let path := env.2; some (QT.num rows)) (fun r => some r)
theorem eq_Tree_DcallD : ∀ (self : T_Tree) (combination : (List IB)), Fn_Tree_DcallD [.val (e_Tree self), .val (.tup (List.map e_ib combination))] = (t_Tree_DcallD self combination).bind fun r => some (.ret (.val (.int r)) [.val (e_Tree self), .val (.tup (List.map e_ib combination))]) := fun self combination => by
 show mkFn _ _ _ _ = _
 rw [mkFn_eq]
 dsimp? only [f_Tree_DcallD, t_Tree_DcallD, Nat.reduceSub, Nat.reduceAdd, rtn_bind, rtn_ite, rtn_none, rtn_nx, rtn_rtv, rtn_rto, rtn_ex, rtn_k, post_n, post_v, post_o, l_cons, l_nil, r_succ, r_zero, a_cons, a_nil, st_Tree_DcallD_1, st_Tree_DcallD_2, ll_Tree_DcallD_1, st_Tree_DcallD_6]
def Fn_law : Fn := mkFn 1 11 (f_law FnZcell FnZsource FnZsizes FnZfull (FnZtree 9) Fn_Tree_DinitD FnZdraw (FnZway 9) FnZrefused Fn_Tree_DcallD FnZsame)
theorem st_law_1 {s2 s3 s4 s5 s6 s7 s8 s9 s10 : S} (script : (List Int)) : (sSet 1 1 (eCall [false] FnZsource (aCons (eCall [false, false] FnZcell (aCons (eVar 0) (aCons (eC (.int 0)) aNil))) aNil))) [.val (.scr script), .no, s2, s3, s4, s5, s6, s7, s8, s9, s10] = (tZcell script (0 : Int)).bind fun v1 => (tZsource v1).bind fun v2 => some (.nx [.val (.scr script), (oL v2), s2, s3, s4, s5, s6, s7, s8, s9, s10]) := by
 simp? only [eqZcell, eqZsource]
theorem st_law_2 {s1 s3 s4 s5 s6 s7 s8 s9 s10 : S} (script : (List Int)) : (sSet 1 2 (eCall [false] FnZsource (aCons (eCall [false, false] FnZcell (aCons (eVar 0) (aCons (eC (.int 2)) aNil))) aNil))) [.val (.scr script), s1, .no, s3, s4, s5, s6, s7, s8, s9, s10] = (tZcell script (2 : Int)).bind fun v3 => (tZsource v3).bind fun v4 => some (.nx [.val (.scr script), s1, (oL v4), s3, s4, s5, s6, s7, s8, s9, s10]) := by
 simp? only [eqZcell, eqZsource]
theorem st_law_3 {s0 s2 s4 s5 s6 s7 s8 s9 s10 : S} (shape : (List Int)) : (sFz 3 (sSet 1 3 (eCall [true, false, false, false] FnZsizes (aCons (eVar 1) (aCons (eC (.int 7)) (aCons (eC (.int 6)) (aCons (eC (.int 24)) aNil))))))) [s0, (oL shape), s2, .no, s4, s5, s6, s7, s8, s9, s10] = (tZsizes shape (7 : Int) (6 : Int) (24 : Int)).bind fun v5 => some (.nx [s0, (oL v5.2), s2, (vL v5.1), s4, s5, s6, s7, s8, s9, s10]) := by
 simp? only [eqZsizes]
theorem st_law_4 {s1 s2 s5 s6 s7 s8 s9 s10 : S} (script : (List Int)) (sizes : (List Int)) : (sSet 1 4 (eCallT2 [false, true, true] (FnZtree 9) (aConsT2 (eCall [false] FnZfull (aCons (eVar 3) aNil)) (aTmp2 (eCall [false] FnZsource (aCons (eCall [false, false] FnZcell (aCons (eVar 0) (aCons (eC (.int 1)) aNil))) aNil)) (aTmp (eLst aNil) aNil))))) [.val (.scr script), s1, s2, (vL sizes), .no, s5, s6, s7, s8, s9, s10] = (tZfull sizes).bind fun v6 => (tZcell script (1 : Int)).bind fun v7 => (tZsource v7).bind fun v8 => ((tZtree 9) v6 v8 ([] : List Int)).bind fun v9 => some (.nx [.val (.scr script), s1, s2, (vL sizes), .val (e_tree v9.1), s5, s6, s7, s8, s9, s10]) := by
 have q0 := fun (v6 : ((List (List Int)))) (v8 : ((List Int))) => (eqZtree 9) v6 v8 ([] : List Int)
 try simp? only [Tl.ob_some] at q0
 simp? only [eqZfull, eqZcell, eqZsource, q0]
theorem st_law_5 {s0 s1 s2 s3 s6 s7 s8 s9 s10 : S} (rows : QT) : (sFz 5 (sSet 1 5 (eMake "Tree" [false] Fn_Tree_DinitD (aCons (eVar 4) aNil)))) [s0, s1, s2, s3, .val (e_tree rows), .no, s6, s7, s8, s9, s10] = (t_Tree_DinitD rows).bind fun v10 => some (.nx [s0, s1, s2, s3, .val (e_tree rows), .val (e_Tree v10), s6, s7, s8, s9, s10]) := by
 simp? only [eq_Tree_DinitD]
theorem st_law_6 {s0 s1 s2 s3 s4 s5 s6 s8 s9 s10 : S}  : (sSet 1 7 (eTup aNil)) [s0, s1, s2, s3, s4, s5, s6, .no, s8, s9, s10] = some (.nx [s0, s1, s2, s3, s4, s5, s6, .val (.tup (List.map e_ib ([] : List IB))), s8, s9, s10]) := by
 simp? only [Tl.ob_some]
theorem st_law_7 {s0 s1 s3 s4 s5 s6 s7 s9 : S} (source : (List Int)) (size : Int) : (sSet 1 10 (eCall [true, false] FnZdraw (aCons (eVar 2) (aCons (eVar 8) aNil)))) [s0, s1, (oL source), s3, s4, s5, s6, s7, (vI size), s9, .no] = (tZdraw source size).bind fun v12 => some (.nx [s0, s1, (oL v12.2), s3, s4, s5, s6, s7, (vI size), s9, .val (e_ib (IB.i v12.1))]) := by
 simp? only [eqZdraw]
theorem tst_law_1 {s0 s1 s3 s4 s5 s6 s7 s8 s9 s10 : S} (source : (List Int)) {γ : Type} {kx : Xn → List S → Option γ} {k : Bool → List S → Option γ} : cps (tCmp (eEq (eCall [true, false] FnZdraw (aCons (eVar 2) (aCons (eC (.int 4)) aNil))) (eC (.int 0)))) [s0, s1, (oL source), s3, s4, s5, s6, s7, s8, s9, s10] kx k = (tZdraw source (4 : Int)).bind fun v13 => k (decide (v13.1 = (0 : Int))) [s0, s1, (oL v13.2), s3, s4, s5, s6, s7, s8, s9, s10] := by
 simp? only [eqZdraw]
theorem st_law_8 {s0 s1 s3 s4 s5 s6 s7 s9 : S} (source : (List Int)) (size : Int) (standing : IB) : (sSet 1 10 (eIx (eLst (aCons (eVar 8) (aCons (eAdd (eVar 8) (eCall [true, false] FnZdraw (aCons (eVar 2) (aCons (eSub (ePow (eC (.int 10)) (eC (.int 9))) (eC (.int 9))) aNil)))) (aCons (eC (.bl true)) (aCons (eC (.bl false)) aNil))))) (eCall [true, false] FnZdraw (aCons (eVar 2) (aCons (eC (.int 4)) aNil))))) [s0, s1, (oL source), s3, s4, s5, s6, s7, (vI size), s9, .val (e_ib standing)] = (tZdraw source ((1000000000 : Int) - (9 : Int))).bind fun v14 => (tZdraw v14.2 (4 : Int)).bind fun v15 => (atI [(IB.i size), (IB.i (size + v14.1)), (IB.b true), (IB.b false)] v15.1).bind fun v16 => some (.nx [s0, s1, (oL v15.2), s3, s4, s5, s6, s7, (vI size), s9, .val (e_ib v16)]) := by
 have lf : ∀ (a0 : Int) (a1 : Int) (a2 : Bool) (a3 : Bool) (i : Int), atI [(D.int a0), (D.int a1), (D.bl a2), (D.bl a3)] i = (atI [(IB.i a0), (IB.i a1), (IB.b a2), (IB.b a3)] i).bind fun a => some (e_ib a) := fun a0 a1 a2 a3 i => atI_map' e_ib [(IB.i a0), (IB.i a1), (IB.b a2), (IB.b a3)] i
 simp? only [(by decide +kernel : powOk 10 9 = true), (by decide +kernel : ((10 : Int) ^ Int.toNat 9) = 1000000000), eqZdraw, lf]
theorem il_law_1 {s0 s1 s3 s4 s5 s6 s7 s9 : S} (source : (List Int)) (size : Int) (standing : IB) : (i_law_1 FnZdraw) [s0, s1, (oL source), s3, s4, s5, s6, s7, (vI size), s9, .val (e_ib standing)] = ((tZdraw source (4 : Int)).bind fun v13 => let c_ := (decide (v13.1 = (0 : Int))); let source_n := v13.2; let source := source_n; if c_ = true then (tZdraw source ((1000000000 : Int) - (9 : Int))).bind fun v14 => (tZdraw v14.2 (4 : Int)).bind fun v15 => (atI [(IB.i size), (IB.i (size + v14.1)), (IB.b true), (IB.b false)] v15.1).bind fun v16 => let source_n := v15.2; let standing_n := v16; let source := source_n; let standing := standing_n; some (source, standing) else some (source, standing)).bind fun v17 => some (.nx [s0, s1, (oL v17.1), s3, s4, s5, s6, s7, (vI size), s9, .val (e_ib v17.2)]) := by
 dsimp? only [i_law_1, tst_law_1, st_law_8]
theorem st_law_9 {s0 s1 s2 s3 s4 s5 s6 s8 s9 : S} (combo : (List IB)) (standing : IB) : (sSet 1 7 (eAdd (eVar 7) (eTup (aCons (eVar 10) aNil)))) [s0, s1, s2, s3, s4, s5, s6, .val (.tup (List.map e_ib combo)), s8, s9, .val (e_ib standing)] = (gz (List.length combo + List.length [standing])).bind fun _ => some (.nx [s0, s1, s2, s3, s4, s5, s6, .val (.tup (List.map e_ib (combo ++ [standing]))), s8, s9, .val (e_ib standing)]) := by
 simp? only [Tl.ob_some]
def tb_law_1  (it : Int) (env : ((List Int) × (List IB))) : Option ((List Int) × (List IB)) := let size := it; let source := env.1; let combo := env.2; (tZdraw source size).bind fun v12 => let source_n := v12.2; let standing_n := (IB.i v12.1); let source := source_n; let standing := standing_n; ((tZdraw source (4 : Int)).bind fun v13 => let c_ := (decide (v13.1 = (0 : Int))); let source_n := v13.2; let source := source_n; if c_ = true then (tZdraw source ((1000000000 : Int) - (9 : Int))).bind fun v14 => (tZdraw v14.2 (4 : Int)).bind fun v15 => (atI [(IB.i size), (IB.i (size + v14.1)), (IB.b true), (IB.b false)] v15.1).bind fun v16 => let source_n := v15.2; let standing_n := v16; let source := source_n; let standing := standing_n; some (source, standing) else some (source, standing)).bind fun v17 => let source := v17.1; let standing := v17.2; (gz (List.length combo + List.length [standing])).bind fun _ => let combo := (combo ++ [standing]); some (source, combo)
theorem bl_law_1 {s0 s1 s3 s4 s5 s6 s9 : S}  (it : Int) (env : ((List Int) × (List IB))) : ((gN 8) (.int it) [s0, s1, (oL env.1), s3, s4, s5, s6, .val (.tup (List.map e_ib env.2)), .no, s9, .no]).bind (b_law_1 FnZdraw) = ((tb_law_1 ) it env).bind fun o => some (.nx [s0, s1, (oL o.1), s3, s4, s5, s6, .val (.tup (List.map e_ib o.2)), .no, s9, .no]) := by
 dsimp? only [b_law_1, tb_law_1, gT_eq, gsN_eq, gsC_eq, l_cons, l_nil, st_law_7, il_law_1, st_law_9]
theorem ll_law_1 {s0 s1 s4 s5 s6 s9 : S} (source : (List Int)) (sizes : (List Int)) (combo : (List IB)) : (l_law_1 FnZdraw) [s0, s1, (oL source), (vL sizes), s4, s5, s6, .val (.tup (List.map e_ib combo)), .no, s9, .no] = (foldT (tb_law_1 ) sizes (source, combo)).bind fun o => some (.nx [s0, s1, (oL o.1), (vL sizes), s4, s5, s6, .val (.tup (List.map e_ib o.2)), .no, s9, .no]) := by
 have hh := fun  (xs : List Int) (env : ((List Int) × (List IB))) => forL_fold (e := D.int) (st := fun (env : ((List Int) × (List IB))) => [s0, s1, .own (.lst (List.map D.int env.1)), .val (.lst (List.map D.int sizes)), s4, s5, s6, .val (.tup (List.map e_ib env.2)), .no, s9, .no]) (tg := (gN 8)) (body := (b_law_1 FnZdraw)) (tb := (tb_law_1 )) xs env (fun x _ env => bl_law_1  x env)
 have hh := fun  (source : (List Int)) (combo : (List IB)) (xs : List Int) => hh  xs (source, combo)
 simp? only [l_law_1, sFor_eq] at hh ⊢
 simp? only [hh]
theorem st_law_10 {s0 s1 s2 s3 s5 s6 s8 s10 : S} (rows : QT) (combo : (List IB)) : (sSet 1 9 (eCall [false, false, false] (FnZway 9) (aCons (eVar 4) (aCons (eVar 7) (aCons (eTup aNil) aNil))))) [s0, s1, s2, s3, .val (e_tree rows), s5, s6, .val (.tup (List.map e_ib combo)), s8, .no, s10] = ((tZway 9) rows combo ([] : List Int)).bind fun v19 => some (.nx [s0, s1, s2, s3, .val (e_tree rows), s5, s6, .val (.tup (List.map e_ib combo)), s8, .val (.tup [(.tup (mI v19.1)), (eO D.int v19.2)]), s10]) := by
 have q0 := (eqZway 9) rows combo ([] : List Int)
 try simp? only [Tl.ob_some] at q0
 simp? only [q0]
theorem tst_law_2 {s0 s1 s2 s3 s4 s5 s6 s7 s8 s10 : S} (way : ((List Int) × (Option Int))) {γ : Type} {kx : Xn → List S → Option γ} {k : Bool → List S → Option γ} : cps (tCmp (eIs (eIx (eVar 9) (eC (.int 1))) (eC .non))) [s0, s1, s2, s3, s4, s5, s6, s7, s8, .val (.tup [(.tup (mI way.1)), (eO D.int way.2)]), s10] kx k = k (way.2.isNone) [s0, s1, s2, s3, s4, s5, s6, s7, s8, .val (.tup [(.tup (mI way.1)), (eO D.int way.2)]), s10] := by
 simp? only [Tl.ob_some]
theorem tst_law_3 {s0 s1 s2 s3 s4 s6 s8 s10 : S} (tree : T_Tree) (combo : (List IB)) (way : ((List Int) × (Option Int))) {γ : Type} {kx : Xn → List S → Option γ} {k : Bool → List S → Option γ} : cps (tNot (tVal (eCall [false, false, false] FnZrefused (aCons (eVar 5) (aCons (eVar 7) (aCons (eIx (eVar 9) (eC (.int 0))) aNil)))))) [s0, s1, s2, s3, s4, .val (e_Tree tree), s6, .val (.tup (List.map e_ib combo)), s8, .val (.tup [(.tup (mI way.1)), (eO D.int way.2)]), s10] kx k = (tZrefused tree combo way.1).bind fun v20 => k (!v20) [s0, s1, s2, s3, s4, .val (e_Tree tree), s6, .val (.tup (List.map e_ib combo)), s8, .val (.tup [(.tup (mI way.1)), (eO D.int way.2)]), s10] := by
 simp? only [eqZrefused]
theorem st_law_11 {s0 s1 s2 s3 s4 s5 s6 s7 s8 s9 s10 : S}  : (sRtA [0, 1, 2, 3, 4, 5, 6, 7, 8, 9, 10] (sRet (eC (.bl false)))) [s0, s1, s2, s3, s4, s5, s6, s7, s8, s9, s10] = some (.rt (.val (.bl false)) [.no, .no, .no, .no, .no, .no, .no, .no, .no, .no, .no]) := by
 simp? only [Tl.ob_some]
theorem tst_law_4 {s0 s1 s2 s3 s4 s6 s8 s10 : S} (tree : T_Tree) (combo : (List IB)) (way : ((List Int) × (Option Int))) {γ : Type} {kx : Xn → List S → Option γ} {k : Bool → List S → Option γ} : cps (tNot (tVal (eCall [false, false] FnZsame (aCons (eOwnCall "Tree" [false, false] Fn_Tree_DcallD (eVar 5) (aCons (eVar 7) aNil)) (aCons (eIx (eVar 9) (eC (.int 1))) aNil))))) [s0, s1, s2, s3, s4, .val (e_Tree tree), s6, .val (.tup (List.map e_ib combo)), s8, .val (.tup [(.tup (mI way.1)), (eO D.int way.2)]), s10] kx k = (t_Tree_DcallD tree combo).bind fun v21 => (tZsame (D.int v21) (eO D.int way.2)).bind fun v22 => k (!v22) [s0, s1, s2, s3, s4, .val (e_Tree tree), s6, .val (.tup (List.map e_ib combo)), s8, .val (.tup [(.tup (mI way.1)), (eO D.int way.2)]), s10] := by
 have q0 := fun (v21 : (Int)) => eqZsame (D.int v21) (eO D.int way.2)
 try simp? only [Tl.ob_some] at q0
 simp? only [eq_Tree_DcallD, q0]
theorem st_law_12 {s0 s1 s2 s3 s4 s5 s6 s7 s8 s9 s10 : S}  : (sRtA [0, 1, 2, 3, 4, 5, 6, 7, 8, 9, 10] (sRet (eC (.bl false)))) [s0, s1, s2, s3, s4, s5, s6, s7, s8, s9, s10] = some (.rt (.val (.bl false)) [.no, .no, .no, .no, .no, .no, .no, .no, .no, .no, .no]) := by
 simp? only [Tl.ob_some]
def tb_law_2 (sizes : (List Int)) (rows : QT) (tree : T_Tree) (it : Int) (env : ((List Int))) : Option (Cf ((List Int)) (Bool)) := let turn := it; let source := env; let combo := ([] : List IB); (foldT (tb_law_1 ) sizes (source, combo)).bind fun v18 => let source := v18.1; let combo := v18.2; ((tZway 9) rows combo ([] : List Int)).bind fun v19 => let way := v19; if (way.2.isNone) = true then (tZrefused tree combo way.1).bind fun v20 => if (!v20) = true then some (.rt false) else some (.nx source) else (t_Tree_DcallD tree combo).bind fun v21 => (tZsame (D.int v21) (eO D.int way.2)).bind fun v22 => if (!v22) = true then some (.rt false) else some (.nx source)
theorem bl_law_2 {s0 s1 : S} (sizes : (List Int)) (rows : QT) (tree : T_Tree) (it : Int) (env : ((List Int))) : ((gN 6) (.int it) [s0, s1, (oL env), (vL sizes), .val (e_tree rows), .val (e_Tree tree), .no, .no, .no, .no, .no]).bind (b_law_2 FnZdraw (FnZway 9) FnZrefused FnZsame Fn_Tree_DcallD) = ((tb_law_2 sizes rows tree) it env).bind fun o => some (cfO (fun env => [s0, s1, (oL env), (vL sizes), .val (e_tree rows), .val (e_Tree tree), .no, .no, .no, .no, .no]) (fun r => (.val (.bl r))) (fun r => [.no, .no, .no, .no, .no, .no, .no, .no, .no, .no, .no]) o) := by
 dsimp? only [b_law_2, tb_law_2, gT_eq, gsN_eq, gsC_eq, l_cons, l_nil, st_law_6, ll_law_1, st_law_10, tst_law_2, tst_law_3, st_law_11, tst_law_4, st_law_12]
theorem ll_law_2 {s0 s1 : S} (source : (List Int)) (sizes : (List Int)) (rows : QT) (tree : T_Tree) : (l_law_2 FnZdraw (FnZway 9) FnZrefused FnZsame Fn_Tree_DcallD) [s0, s1, (oL source), (vL sizes), .val (e_tree rows), .val (e_Tree tree), .no, .no, .no, .no, .no] = (rngT (12 : Int)).bind fun v11 => (forT (tb_law_2 sizes rows tree) v11 source).bind fun o => some (lpO (fun env => [s0, s1, (oL env), (vL sizes), .val (e_tree rows), .val (e_Tree tree), .no, .no, .no, .no, .no]) (fun r => (.val (.bl r))) (fun r => [.no, .no, .no, .no, .no, .no, .no, .no, .no, .no, .no]) o) := by
 have hh := fun (sizes : (List Int)) (rows : QT) (tree : T_Tree) (xs : List Int) (env : ((List Int))) => forL_cf (e := D.int) (st := fun (env : ((List Int))) => [s0, s1, .own (.lst (List.map D.int env)), .val (.lst (List.map D.int sizes)), .val (e_tree rows), .val (e_Tree tree), .no, .no, .no, .no, .no]) (rv := fun r => (.val (.bl r))) (rs := fun r => [.no, .no, .no, .no, .no, .no, .no, .no, .no, .no, .no]) (tg := (gN 6)) (body := (b_law_2 FnZdraw (FnZway 9) FnZrefused FnZsame Fn_Tree_DcallD)) (tb := (tb_law_2 sizes rows tree)) xs env (fun x _ env => bl_law_2 sizes rows tree x env)
 have hh := fun (sizes : (List Int)) (rows : QT) (tree : T_Tree) (source : (List Int)) (xs : List Int) => hh sizes rows tree xs source
 simp? only [l_law_2, sFor_eq] at hh ⊢
 simp? only [hh]
theorem st_law_13 {s0 s1 s2 s3 s6 s7 s8 s9 s10 : S} (rows : QT) (tree : T_Tree) : (sRtA [0, 1, 2, 3, 4, 5, 6, 7, 8, 9, 10] (sRet (eCall [false, false] FnZsame (aCons (eFld ["Tree"] "rows" (eVar 5)) (aCons (eVar 4) aNil))))) [s0, s1, s2, s3, .val (e_tree rows), .val (e_Tree tree), s6, s7, s8, s9, s10] = (tZsame (e_tree tree.rows) (e_tree rows)).bind fun v25 => some (.rt (.val (.bl v25)) [.no, .no, .no, .no, .no, .no, .no, .no, .no, .no, .no]) := by
 have q0 := eqZsame (e_tree tree.rows) (e_tree rows)
 try simp? only [Tl.ob_some] at q0
 simp? only [q0]
def t_law (script : (List Int)) : Option (Bool) := (tZcell script (0 : Int)).bind fun v1 => (tZsource v1).bind fun v2 => let shape := v2; (tZcell script (2 : Int)).bind fun v3 => (tZsource v3).bind fun v4 => let source := v4; (tZsizes shape (7 : Int) (6 : Int) (24 : Int)).bind fun v5 => let shape_n := v5.2; let sizes_n := v5.1; let shape := shape_n; let sizes := sizes_n; (tZfull sizes).bind fun v6 => (tZcell script (1 : Int)).bind fun v7 => (tZsource v7).bind fun v8 => ((tZtree 9) v6 v8 ([] : List Int)).bind fun v9 => let rows := v9.1; (t_Tree_DinitD rows).bind fun v10 => let tree := v10; (rngT (12 : Int)).bind fun v11 => (forT (tb_law_2 sizes rows tree) v11 source).bind fun v24 => v24.k (fun env => let source := env; (tZsame (e_tree tree.rows) (e_tree rows)).bind fun v25 => some v25) (fun r => some r)
theorem eq_law : ∀ (script : (List Int)), Fn_law [.val (.scr script)] = (t_law script).bind fun r => some (.ret (.val (.bl r)) [.val (.scr script)]) := fun script => by
 show mkFn _ _ _ _ = _
 rw [mkFn_eq]
 dsimp? only [f_law, t_law, Nat.reduceSub, Nat.reduceAdd, rtn_bind, rtn_ite, rtn_none, rtn_nx, rtn_rtv, rtn_rto, rtn_ex, rtn_k, post_n, post_v, post_o, l_cons, l_nil, r_succ, r_zero, a_cons, a_nil, st_law_1, st_law_2, st_law_3, st_law_4, st_law_5, ll_law_2, st_law_13]
end
end My
namespace My
open PySem Dl Tl
open L2 (ixN atI)
structure Src where
 a : Int
 b : Int
 c : Int
def Src.l (s : Src) : List Int := [s.a, s.b, s.c]
def mix1 (b c : Int) : Int := (c * 48271 + b * 69621) % 2147483647
def mix2 (b c : Int) : Int := (mix1 b c * mix1 b c + b * 40692 + 7) % 2147483629
def Src.get (s : Src) (n : Int) : Int := if 0 < s.a then s.a % n else (mix2 (s.b + 1) s.c / 8 + mix2 (s.b + 1) s.c * 10000019) % n
def Src.next (s : Src) (n : Int) : Src := ⟨if 0 < s.a then s.a / n else s.a, s.b + 1, s.c⟩
theorem Src.get_nonneg (s : Src) {n : Int} (h : 0 < n) : 0 ≤ s.get n := by
 unfold Src.get
 split <;> exact Int.emod_nonneg _ (by omega)
theorem Src.get_lt (s : Src) {n : Int} (h : 0 < n) : s.get n < n := by
 unfold Src.get
 split <;> exact Int.emod_lt_of_pos _ h
def cellV (ns : List Int) (k : Int) : Int := ns.getD k.toNat 0
theorem cell_eq (ns : List Int) (k : Nat) : tZcell ns k = some (cellV ns k) := by
 unfold tZcell
 by_cases hl : k < ns.length
 · have h1 : decide ((k : Int) < ((List.length ns : Nat) : Int)) = true := decide_eq_true (by omega)
   rw [if_pos h1, atI_nat]
   simp [cellV, List.getElem?_eq_getElem hl]
 · have h1 : decide ((k : Int) < ((List.length ns : Nat) : Int)) = false := decide_eq_false (by omega)
   rw [if_neg (by rw [h1]; exact Bool.false_ne_true)]
   simp [cellV, List.getElem?_eq_none (by omega : ns.length ≤ k)]
def srcV (n : Int) : Src := if 10 ^ 18 ≤ n then ⟨n, 0, n⟩ else ⟨0, 0, n⟩
theorem source_eq (n : Int) : tZsource n = some (srcV n).l := by
 unfold tZsource srcV
 by_cases h : (10 : Int) ^ 18 ≤ n
 · rw [if_pos (decide_eq_true (by omega)), if_pos h]; rfl
 · rw [if_neg (by rw [decide_eq_false (by omega)]; exact Bool.false_ne_true), if_neg h]; rfl
theorem set3_0 (a b c v : Int) : setT [a, b, c] 0 v = some [v, b, c] := rfl
theorem set3_1 (a b c v : Int) : setT [a, b, c] 1 v = some [a, v, c] := rfl
theorem draw_eq (s : Src) {n : Int} (h : 0 < n ∧ n < 2 ^ 64) : tZdraw s.l n = some (s.get n, (s.next n).l) := by
 obtain ⟨a, b, c⟩ := s
 have m1 : ∀ i, modOk i n = true := fun i => decide_eq_true h.1
 have d1 : ∀ i, divOk i n = true := fun i => decide_eq_true h
 have g1 := fun i => gb_ok (m1 i)
 have g2 := fun i => gb_ok (d1 i)
 unfold tZdraw Src.get Src.next Src.l
 by_cases ha : 0 < a
 · simp only [at0, at1, at2, set3_0, set3_1, Option.bind_some, decide_eq_true ha, g1, g2, if_true, ha, decide_true]
 · have q1 := Int.emod_nonneg (c * 48271 + (b + 1) * 69621) (b := 2147483647) (by omega)
   have q2 := Int.emod_lt_of_pos (c * 48271 + (b + 1) * 69621) (b := 2147483647) (by omega)
   have g3 : gb (mulOk (mix1 (b + 1) c) (mix1 (b + 1) c)) = some () := gb_ok (mulOk_r (decide_eq_true (by unfold mix1; omega)))
   have e1 : (c * 48271 + (b + 1) * 69621) % 2147483647 = mix1 (b + 1) c := rfl
   have e2 : (mix1 (b + 1) c * mix1 (b + 1) c + (b + 1) * 40692 + 7) % 2147483629 = mix2 (b + 1) c := rfl
   simp only [at0, at1, at2, set3_0, set3_1, Option.bind_some, decide_eq_false ha, g1, e1, g3, e2, if_false, ha, decide_false, Bool.false_eq_true]
theorem asc_tb {x : Int} {acc : List Int} (hz : acc.length < 2 ^ 20) : tb_ascending_1 x acc = some (ascS acc x) := by
 have hg : gz (acc.length + 1) = some () := gz_ok (by omega)
 rcases List.eq_nil_or_concat acc with rfl | ⟨l, y, rfl⟩
 · rfl
 · rw [List.concat_eq_append] at hg ⊢
   have e1 : (l ++ [y]).isEmpty = false := by simp
   have e3 : atI (l ++ [y]) (-1) = some y := atI_last
   rw [ascS_snoc]
   unfold tb_ascending_1
   by_cases h : y = x
   · rw [if_pos h]
     simp only [e1, e3, decide_eq_true h, Option.bind_some, Bool.not_true, Bool.not_false, if_false, Bool.false_eq_true]
   · rw [if_neg h]
     simp only [e1, e3, decide_eq_false h, Option.bind_some, Bool.not_true, Bool.not_false, if_false, if_true, Bool.false_eq_true, hg]
theorem sortI_len (ns : List Int) : (sortI ns).length = ns.length := (sortI_perm ns).length_eq
theorem ascending_eq {ns : Bool × List Int} (h : ns.2.length ≤ 2 ^ 20) : t_ascending ns = some (asc ns.2) := by
 unfold t_ascending
 have := foldT_foldl (body := tb_ascending_1) (f := ascS) List.length (2 ^ 20) (fun x e he => asc_tb he) (fun x e => ascS_len e x) (sortI ns.2) [] (by rw [sortI_len]; simp; omega)
 simp only [this, Option.bind_some]; rfl
theorem is_number_eq (n : Int) : t_is_number n = some (decide (0 ≤ n)) := by
 unfold t_is_number t_is_integer
 simp only [Option.bind_some, Bool.not_false, Bool.and_self, Bool.true_and]
theorem draw_ok (s : Src) {n : Int} (h : 0 < n ∧ n < 2 ^ 64) : OkP (tZdraw s.l n) fun r => ∃ s' : Src, r.2 = s'.l ∧ 0 ≤ r.1 ∧ r.1 < n := ⟨_, draw_eq s h, s.next n, rfl, s.get_nonneg h.1, s.get_lt h.1⟩
end My
namespace My
open PySem Dl Tl
open L2 (ixN atI)
mutual
theorem QT.ind' {P : QT → Prop} (h1 : ∀ n, P (.fin n)) (h2 : ∀ p bs, (∀ b ∈ bs.l, P b.2) → P (.ask p bs)) : ∀ t : QT, P t
 | .fin n => h1 n
 | .ask p bs => h2 p bs (QTs.ind' h1 h2 bs)
theorem QTs.ind' {P : QT → Prop} (h1 : ∀ n, P (.fin n)) (h2 : ∀ p bs, (∀ b ∈ bs.l, P b.2) → P (.ask p bs)) : ∀ bs : QTs, ∀ b ∈ bs.l, P b.2
 | .nil => fun b hb => nomatch hb
 | .cons c t r => fun b hb => by
  have hb : b ∈ (c, t) :: r.l := hb
  rcases List.mem_cons.mp hb with rfl | hb
  · exact QT.ind' h1 h2 t
  · exact QTs.ind' h1 h2 r b hb
end
mutual
def depth : QT → Nat
 | .fin _ => 0
 | .ask _ bs => 1 + depths bs
def depths : QTs → Nat
 | .nil => 0
 | .cons _ t r => max (depth t) (depths r)
end
mutual
def leaves : QT → List Int
 | .fin n => [n]
 | .ask _ bs => leavess bs
def leavess : QTs → List Int
 | .nil => []
 | .cons _ t r => leaves t ++ leavess r
end
mutual
def hon : QT → List Int → Int
 | .fin n, _ => n
 | .ask p bs, c => honS (c.getD p.toNat 0) bs c
def honS (x : Int) : QTs → List Int → Int
 | .nil, _ => 0
 | .cons cell t r, c => if x ∈ cell then hon t c else honS x r c
end
mutual
def fewT (k : Int) : QT → QT
 | .fin n => .fin (n % k)
 | .ask p bs => .ask p (fewTs k bs)
def fewTs (k : Int) : QTs → QTs
 | .nil => .nil
 | .cons c t r => .cons c (fewT k t) (fewTs k r)
end
theorem depths_le : ∀ {bs : QTs} {b : List Int × QT}, b ∈ bs.l → depth b.2 ≤ depths bs
 | .nil, b, h => nomatch h
 | .cons c t r, b, h => by
  have h : b ∈ (c, t) :: r.l := h
  unfold depths
  rcases List.mem_cons.mp h with rfl | h
  · exact Nat.le_max_left _ _
  · exact Nat.le_trans (depths_le h) (Nat.le_max_right _ _)
theorem depths_lt : ∀ {bs : QTs} {n : Nat}, (∀ b ∈ bs.l, depth b.2 ≤ n) → depths bs ≤ n
 | .nil, n, h => by unfold depths; exact Nat.zero_le _
 | .cons c t r, n, h => by
  unfold depths
  exact Nat.max_le.mpr ⟨h (c, t) (List.mem_cons_self (l := r.l)), depths_lt fun b hb => h b (List.mem_cons_of_mem (c, t) hb)⟩
theorem depth_ask {p : Int} {bs : QTs} {b : List Int × QT} (h : b ∈ bs.l) : depth b.2 < depth (.ask p bs) := by
 have := depths_le h
 show depth b.2 < 1 + depths bs
 omega
theorem leavess_l : ∀ bs : QTs, leavess bs = bs.l.flatMap fun b => leaves b.2
 | .nil => rfl
 | .cons c t r => by unfold leavess QTs.l; rw [List.flatMap_cons, leavess_l r]
theorem leaves_ask (p : Int) (bs : QTs) : leaves (.ask p bs) = bs.l.flatMap fun b => leaves b.2 := by rw [leaves, leavess_l]
theorem tag_x : decide (("ask" : Str) = ("end" : Str)) = false := by decide +kernel
theorem tag_ask (p : Int) (bs : QTs) : decide (QT.tag (.ask p bs) = ("end" : Str)) = false := tag_x
theorem tag_fin (n : Int) : decide (QT.tag (.fin n) = ("end" : Str)) = true := decide_eq_true rfl
inductive FitsT : QT → List (List Int) → Prop where
 | fin (n : Int) (sides : List (List Int)) : FitsT (.fin n) sides
 | ask (p : Nat) (bs : QTs) (sides : List (List Int)) (side : List Int) (hp : sides[p]? = some side) (h2 : 2 ≤ bs.l.length) (hq : (bs.l.flatMap fun b => b.1).Perm side) (hn : ∀ b ∈ bs.l, b.1 ≠ []) (hs : ∀ b ∈ bs.l, b.1.Sublist side) (hr : ∀ b ∈ bs.l, FitsT b.2 (sides.set p b.1)) : FitsT (.ask (p : Int) bs) sides
mutual
theorem few_depth (k : Int) : ∀ t : QT, depth (fewT k t) = depth t
 | .fin n => by unfold fewT depth; rfl
 | .ask p bs => by unfold fewT depth; rw [few_depths k bs]
theorem few_depths (k : Int) : ∀ bs : QTs, depths (fewTs k bs) = depths bs
 | .nil => by unfold fewTs; rfl
 | .cons c t r => by unfold fewTs depths; rw [few_depth k t, few_depths k r]
end
theorem set_take {α : Type} (xs : List α) (p : Nat) (c : α) (h : p < xs.length) : xs.take p ++ [c] ++ xs.drop (p + 1) = xs.set p c := by
 rw [List.set_eq_take_append_cons_drop, if_pos h, List.append_assoc]; rfl
theorem set_cut {α : Type} (xs : List α) (p : Int) (c : α) (h0 : 0 ≤ p) (h : p < xs.length) : cutD xs none (some p) ++ [c] ++ cutD xs (some (p + 1)) none = xs.set p.toNat c := by
 have e1 : p = (p.toNat : Int) := (Int.toNat_of_nonneg h0).symm
 have e2 : p + 1 = ((p.toNat + 1 : Nat) : Int) := by omega
 have h1 : p.toNat < xs.length := by omega
 rw [e2]
 conv => lhs; rw [e1]
 rw [cutT xs (by omega), cutR xs (by omega), Int.toNat_natCast]
 exact set_take xs p.toNat c h1
theorem vol_set : ∀ {ss : List (List Int)} {p : Nat} {side : List Int}, ss[p]? = some side → ∃ V, vol ss = max 1 side.length * V ∧ 0 < V ∧ ∀ c, vol (ss.set p c) = max 1 c.length * V
 | [], p, side, h => by simp at h
 | s :: ss, 0, side, h => by
  cases h
  exact ⟨vol ss, rfl, vol_pos ss, fun c => rfl⟩
 | s :: ss, p + 1, side, h => by
  obtain ⟨V, h1, h2, h3⟩ := vol_set (ss := ss) (p := p) (by exact h)
  refine ⟨max 1 s.length * V, ?_, Nat.mul_pos (by omega) h2, fun c => ?_⟩
  · show max 1 s.length * vol ss = _
    rw [h1, Nat.mul_left_comm]
  · show max 1 s.length * vol (ss.set p c) = _
    rw [h3 c, Nat.mul_left_comm]
def meas : List (List Int) → Nat
 | [] => 0
 | s :: ss => (s.length - 1) + meas ss
theorem meas_set : ∀ {ss : List (List Int)} {p : Nat} {side : List Int}, ss[p]? = some side → ∃ M, meas ss = (side.length - 1) + M ∧ ∀ c : List Int, meas (ss.set p c) = (c.length - 1) + M
 | [], p, side, h => by simp at h
 | s :: ss, 0, side, h => by
  cases h
  exact ⟨meas ss, rfl, fun c => rfl⟩
 | s :: ss, p + 1, side, h => by
  obtain ⟨M, h1, h3⟩ := meas_set (ss := ss) (p := p) (by exact h)
  refine ⟨(s.length - 1) + M, ?_, fun c => ?_⟩
  · show (s.length - 1) + meas ss = _
    rw [h1]; omega
  · show (s.length - 1) + meas (ss.set p c) = _
    rw [h3 c]; omega
theorem set_ne {ss : List (List Int)} {p : Nat} {c : List Int} (h : ∀ s ∈ ss, s ≠ []) (hc : c ≠ []) : ∀ s ∈ ss.set p c, s ≠ [] := fun s hs => by
 rcases List.mem_or_eq_of_mem_set hs with hs | hs
 · exact h s hs
 · rw [hs]; exact hc
end My
namespace My
open PySem Dl Tl
open L2 (ixN atI)
def isSrc (l : List Int) : Prop := ∃ s : Src, l = s.l
theorem draw_is {l : List Int} (hl : isSrc l) {n : Int} (h : 0 < n ∧ n < 2 ^ 64) : OkP (tZdraw l n) fun r => isSrc r.2 ∧ 0 ≤ r.1 ∧ r.1 < n := by
 obtain ⟨s, rfl⟩ := hl
 exact (draw_ok s h).mono fun r ⟨s', h1, h2⟩ => ⟨⟨s', h1⟩, h2⟩
theorem source_is (n : Int) : OkP (tZsource n) isSrc := ⟨_, source_eq n, _, rfl⟩
theorem toNat_lt {i : Int} {n : Nat} (h0 : 0 ≤ i) (h : i < n) : i.toNat < n := by omega
def pick (side marks : List Int) (m : Int) : List Int := ((List.zip side marks).filter fun q => decide (q.2 = m)).map fun q => q.1
theorem pick_cons (x m' : Int) (side marks : List Int) (m : Int) : pick (x :: side) (m' :: marks) m = if m' = m then x :: pick side marks m else pick side marks m := by
 unfold pick
 rw [List.zip_cons_cons]
 by_cases h : m' = m
 · rw [if_pos h, List.filter_cons_of_pos (by exact decide_eq_true h)]; rfl
 · rw [if_neg h, List.filter_cons_of_neg (by simpa using h)]
theorem pick_sub : ∀ (side marks : List Int) (m : Int), (pick side marks m).Sublist side
 | [], marks, m => by unfold pick; rw [List.zip_nil_left]; exact .slnil
 | x :: side, [], m => by unfold pick; rw [List.zip_nil_right]; exact List.nil_sublist _
 | x :: side, m' :: marks, m => by
  rw [pick_cons]
  split
  · exact (pick_sub side marks m).cons₂ x
  · exact (pick_sub side marks m).cons x
theorem pick_perm : ∀ (side marks : List Int), marks.length = side.length → (∀ m ∈ marks, 0 ≤ m ∧ m < 4) → (pick side marks 0 ++ (pick side marks 1 ++ (pick side marks 2 ++ pick side marks 3))).Perm side
 | [], marks, _, _ => by simp [pick]
 | x :: side, [], h, _ => by cases h
 | x :: side, m :: marks, h, hm => by
  have ih := pick_perm side marks (by simpa using h) fun m' h' => hm m' (List.mem_cons_of_mem _ h')
  obtain ⟨h0, h4⟩ := hm m List.mem_cons_self
  have hc : m = 0 ∨ m = 1 ∨ m = 2 ∨ m = 3 := by omega
  rcases hc with rfl | rfl | rfl | rfl
  · simp only [pick_cons, if_true, if_neg (by decide : ¬ (0 : Int) = 1), if_neg (by decide : ¬ (0 : Int) = 2), if_neg (by decide : ¬ (0 : Int) = 3)]
    exact ih.cons x
  · simp only [pick_cons, if_true, if_neg (by decide : ¬ (1 : Int) = 0), if_neg (by decide : ¬ (1 : Int) = 2), if_neg (by decide : ¬ (1 : Int) = 3)]
    exact List.perm_middle.trans (ih.cons x)
  · simp only [pick_cons, if_true, if_neg (by decide : ¬ (2 : Int) = 0), if_neg (by decide : ¬ (2 : Int) = 1), if_neg (by decide : ¬ (2 : Int) = 3)]
    rw [← List.append_assoc]
    refine List.perm_middle.trans ?_
    rw [List.append_assoc]
    exact ih.cons x
  · simp only [pick_cons, if_true, if_neg (by decide : ¬ (3 : Int) = 0), if_neg (by decide : ¬ (3 : Int) = 1), if_neg (by decide : ¬ (3 : Int) = 2)]
    rw [← List.append_assoc, ← List.append_assoc]
    refine List.perm_middle.trans ?_
    rw [List.append_assoc, List.append_assoc]
    exact ih.cons x
theorem pick_mem {side marks : List Int} {m : Int} {i : Nat} {x : Int} (h1 : side[i]? = some x) (h2 : marks[i]? = some m) : x ∈ pick side marks m := by
 unfold pick
 refine List.mem_map.mpr ⟨(x, m), List.mem_filter.mpr ⟨?_, decide_eq_true rfl⟩, rfl⟩
 have : (List.zip side marks)[i]? = some (x, m) := by rw [List.getElem?_zip_eq_some]; exact ⟨h1, h2⟩
 exact List.mem_of_getElem? this
structure CellsOk (side : List Int) (cells : List (List Int)) : Prop where
 ne : ∀ c ∈ cells, c ≠ []
 sub : ∀ c ∈ cells, c.Sublist side
 perm : (cells.flatMap fun c => c).Perm side
 two : 2 ≤ cells.length
def notNil (c : List Int) : Bool := !decide (c = [])
theorem flat_notNil : ∀ cs : List (List Int), ((cs.filter notNil).flatMap fun c => c) = cs.flatMap fun c => c
 | [] => rfl
 | c :: cs => by
  by_cases h : c = []
  · subst h
    rw [List.filter_cons_of_neg (by simp [notNil]), flat_notNil cs]; rfl
  · rw [List.filter_cons_of_pos (by simp [notNil, h]), List.flatMap_cons, List.flatMap_cons, flat_notNil cs]
theorem cells_of (side marks : List Int) (hl : marks.length = side.length) (hm : ∀ m ∈ marks, 0 ≤ m ∧ m < 4) {i j : Nat} {a b : Int} (hi : marks[i]? = some a) (hj : marks[j]? = some b) (hab : a ≠ b) : CellsOk side (((rngI 0 4).map (pick side marks)).filter notNil) := by
 have e4 : rngI 0 4 = [0, 1, 2, 3] := by decide
 refine ⟨fun c hc => ?_, fun c hc => ?_, ?_, ?_⟩
 · have := (List.mem_filter.mp hc).2
   intro z; subst z; cases this
 · obtain ⟨m, _, rfl⟩ := List.mem_map.mp (List.mem_filter.mp hc).1
   exact pick_sub side marks m
 · rw [flat_notNil, e4]
   show (pick side marks 0 ++ (pick side marks 1 ++ (pick side marks 2 ++ (pick side marks 3 ++ [])))).Perm side
   rw [List.append_nil]
   exact pick_perm side marks hl hm
 · have li := (List.getElem?_eq_some_iff.mp hi).1
   have lj := (List.getElem?_eq_some_iff.mp hj).1
   have n1 : pick side marks a ≠ [] := fun z => by
    have := pick_mem (List.getElem?_eq_getElem (by omega : i < side.length)) hi
    rw [z] at this; cases this
   have n2 : pick side marks b ≠ [] := fun z => by
    have := pick_mem (List.getElem?_eq_getElem (by omega : j < side.length)) hj
    rw [z] at this; cases this
   have ha := hm a (List.mem_of_getElem? hi)
   have hb := hm b (List.mem_of_getElem? hj)
   have key : ∀ ms : List Int, ms.Nodup → a ∈ ms → b ∈ ms → 2 ≤ ((ms.map (pick side marks)).filter notNil).length := by
    intro ms
    have one : ∀ (ms : List Int) (x : Int), pick side marks x ≠ [] → x ∈ ms → 1 ≤ ((ms.map (pick side marks)).filter notNil).length := fun ms x hx hxm => by
     have : pick side marks x ∈ (ms.map (pick side marks)).filter notNil := List.mem_filter.mpr ⟨List.mem_map.mpr ⟨x, hxm, rfl⟩, by simp [notNil, hx]⟩
     exact List.length_pos_of_mem this
    induction ms with
    | nil => intro _ h; cases h
    | cons x ms ih =>
     intro nd h1 h2
     obtain ⟨nd1, nd2⟩ := List.nodup_cons.mp nd
     rw [List.map_cons]
     rcases List.mem_cons.mp h1 with k1 | k1
     · subst k1
       rw [List.filter_cons_of_pos (by simp [notNil, n1]), List.length_cons]
       rcases List.mem_cons.mp h2 with k2 | k2
       · exact absurd k2.symm hab
       · have := one ms b n2 k2; omega
     · rcases List.mem_cons.mp h2 with k2 | k2
       · subst k2
         rw [List.filter_cons_of_pos (by simp [notNil, n2]), List.length_cons]
         have := one ms a n1 k1; omega
       · have := ih nd2 k1 k2
         by_cases q : notNil (pick side marks x) = true
         · rw [List.filter_cons_of_pos q, List.length_cons]; omega
         · rw [List.filter_cons_of_neg q]; exact this
   rw [e4]
   have hma : a ∈ [(0 : Int), 1, 2, 3] := by
    have : a = 0 ∨ a = 1 ∨ a = 2 ∨ a = 3 := by omega
    simp [this]
   have hmb : b ∈ [(0 : Int), 1, 2, 3] := by
    have : b = 0 ∨ b = 1 ∨ b = 2 ∨ b = 3 := by omega
    simp [this]
   exact key [0, 1, 2, 3] (by decide) hma hmb
theorem zip_pick : ∀ (side marks : List Int), marks.length = side.length → ∀ (m : Int), (((List.range side.length).filter fun k => decide (marks.getD k 0 = m)).map fun k => side.getD k 0) = pick side marks m
 | [], marks, _, m => by simp [pick]
 | x :: side, [], h, _ => by cases h
 | x :: side, m' :: marks, h, m => by
  rw [pick_cons, ← zip_pick side marks (by simpa using h) m, List.length_cons, List.range_succ_eq_map]
  have e : ((List.map Nat.succ (List.range side.length)).filter fun k => decide ((m' :: marks).getD k 0 = m)).map (fun k => (x :: side).getD k 0) = ((List.range side.length).filter fun k => decide (marks.getD k 0 = m)).map fun k => side.getD k 0 := by
   rw [List.filter_map, List.map_map]
   rfl
  by_cases q : m' = m
  · rw [if_pos q, List.filter_cons_of_pos (by simpa using q), List.map_cons, e]; rfl
  · rw [if_neg q, List.filter_cons_of_neg (by simpa using q), e]
theorem cell_step {side marks : List Int} (hl : marks.length = side.length) (hz : side.length ≤ 2 ^ 10) (m : Int) (cells : List (List Int)) (hc : cells.length ≤ 2 ^ 10) : tbZsplit_1 side marks m cells = some (if notNil (pick side marks m) = true then cells ++ [pick side marks m] else cells) := by
 unfold tbZsplit_1
 have e1 : rngT ((side.length : Nat) : Int) = some (rngI 0 side.length) := rngT_ok (by omega)
 have e2 : mapF (fcZsplit_3 side marks m) (rngI 0 side.length) = some (pick side marks m) := by
  rw [mapF_filter' (f := fcZsplit_3 side marks m) (g := fun k => side.getD k.toNat 0) (p := fun k => decide (marks.getD k.toNat 0 = m)) (rngI 0 side.length) fun k hk => ?_]
  · congr 1
    unfold rngI
    rw [List.filter_map, List.map_map, ← zip_pick side marks hl m]
    have : ∀ k : Nat, ((0 : Int) + (k : Int)).toNat = k := fun k => by omega
    congr 1
    · funext k; simp only [Function.comp, this]
    · congr 1; funext k; simp only [Function.comp, this]
  · obtain ⟨h0, h1⟩ := mem_rngI.mp hk
    unfold fcZsplit_3
    obtain ⟨a, ea, ga⟩ := atI_i (xs := marks) h0 (by omega)
    obtain ⟨b, eb, gb'⟩ := atI_i (xs := side) h0 (by omega)
    rw [ea, Option.bind_some]
    have em : marks.getD k.toNat 0 = a := by rw [List.getD_eq_getElem?_getD, ga]; rfl
    have es : side.getD k.toNat 0 = b := by rw [List.getD_eq_getElem?_getD, gb']; rfl
    rw [em, es, eb]
    by_cases q : a = m
    · rw [if_pos (decide_eq_true q), if_pos (decide_eq_true q)]; rfl
    · rw [if_neg (by simpa using q), if_neg (by simpa using q)]
 dsimp only
 rw [e1, Option.bind_some, e2, Option.bind_some]
 have e3 : gz (cells.length + 1) = some () := gz_ok (by omega)
 rw [e3]
 unfold notNil
 by_cases q : pick side marks m = []
 · rw [if_neg (by simp [q]), if_neg (by simp [q])]; rfl
 · rw [if_pos (by simp [q]), if_pos (by simp [q])]; rfl
theorem split_ok {side src : List Int} (hs : isSrc src) (h2 : 2 ≤ side.length) (hz : side.length ≤ 2 ^ 10) : OkP (tZsplit side src) fun r => isSrc r.2 ∧ CellsOk side r.1 := by
 unfold tZsplit
 refine OkP.bind (OkP.mapE isSrc (fun _ y => 0 ≤ y ∧ y < 3) side src hs fun x _ e he => ?_) fun mk hmk => ?_
 · unfold fcZsplit_1
   refine OkP.bind (draw_is he (by decide)) fun r hr => OkP.ret ⟨⟨hr.2.1, hr.2.2⟩, hr.1⟩
 obtain ⟨marks, src1⟩ := mk
 obtain ⟨hmk, hs1⟩ := hmk
 have hl : marks.length = side.length := forall2_len hmk
 have hm : ∀ m ∈ marks, 0 ≤ m ∧ m < 3 := fun m h => by obtain ⟨_, _, h⟩ := forall2_mem hmk m h; exact h
 dsimp only at hs1 ⊢
 have p0 : 0 < marks.length := by omega
 obtain ⟨m0, em0⟩ : ∃ m0, marks[0]? = some m0 := ⟨_, List.getElem?_eq_getElem p0⟩
 have e0 : atI marks 0 = some m0 := atI_nat (k := 0) ▸ em0
 have ef : mapF (fcZsplit_2 marks) marks = some (marks.filter fun m => decide (m = m0)) := by
  refine mapF_filter (f := fcZsplit_2 marks) (p := fun m => decide (m = m0)) marks fun x _ => ?_
  unfold fcZsplit_2
  rw [e0, Option.bind_some]
  by_cases q : x = m0 <;> simp [q]
 rw [ef, Option.bind_some]
 refine OkP.bind (Q := fun p : List Int × List Int => isSrc p.1 ∧ p.2.length = side.length ∧ (∀ m ∈ p.2, 0 ≤ m ∧ m < 4) ∧ ∃ (i j : Nat) (a b : Int), p.2[i]? = some a ∧ p.2[j]? = some b ∧ a ≠ b) ?_ fun p hp => ?_
 · refine OkP.iteB (fun q => ?_) fun q => ?_
   ·
     have q := of_decide_eq_true q
     have all : ∀ m ∈ marks, m = m0 := fun m hmm => by
      have hq : (marks.filter fun m => decide (m = m0)).length = marks.length := by omega
      have := List.length_filter_eq_length_iff.mp hq m hmm
      exact of_decide_eq_true this
     refine OkP.bind (draw_is hs1 ⟨by omega, by omega⟩) fun r hr => ?_
     refine OkP.at hr.2.1 hr.2.2 fun x hx => ?_
     rw [setT_i hr.2.1 hr.2.2, Option.bind_some]
     have lx : r.1.toNat < marks.length := toNat_lt hr.2.1 hr.2.2
     have ex : x = m0 := all x (List.mem_of_getElem? hx)
     refine OkP.ret ⟨hr.1, by rw [List.length_set]; exact hl, fun m hmm => ?_, ?_⟩
     · rcases List.mem_or_eq_of_mem_set hmm with h | h
       · have := hm m h; omega
       · have := hm x (List.mem_of_getElem? hx); omega
     · obtain ⟨j, hj, hjl⟩ : ∃ j, j ≠ r.1.toNat ∧ j < marks.length := by
         by_cases z : r.1.toNat = 0
         · exact ⟨1, by omega, by omega⟩
         · exact ⟨0, by omega, by omega⟩
       refine ⟨r.1.toNat, j, x + 1, m0, ?_, ?_, by omega⟩
       · dsimp only; rw [List.getElem?_set_self lx]
       · dsimp only; rw [List.getElem?_set_ne (Ne.symm hj), List.getElem?_eq_getElem hjl, all _ (List.getElem_mem hjl)]
   · have q := of_decide_eq_false q
     have hq : (marks.filter fun m => decide (m = m0)).length ≠ marks.length := by omega
     have : ∃ m ∈ marks, m ≠ m0 := by
      refine Classical.byContradiction fun z => hq (List.length_filter_eq_length_iff.mpr fun m hmm => ?_)
      refine Classical.byContradiction fun z2 => z ⟨m, hmm, fun e => z2 (decide_eq_true e)⟩
     obtain ⟨m, hmm, hne⟩ := this
     obtain ⟨i, hi⟩ := List.mem_iff_getElem?.mp hmm
     exact OkP.ret ⟨hs1, hl, fun m h => by have := hm m h; omega, i, 0, m, m0, hi, em0, hne⟩
 · obtain ⟨src2, mk2⟩ := p
   obtain ⟨h1, h2', h3, i, j, a, b, hi, hj, hab⟩ := hp
   dsimp only at h1 h2' h3 hi hj ⊢
   rw [show rngT 4 = some (rngI 0 4) from rngT_ok (by decide : 4 ≤ 2 ^ 20), Option.bind_some]
   have ef : foldT (tbZsplit_1 side mk2) (rngI 0 4) [] = some (((rngI 0 4).map (pick side mk2)).filter notNil) := by
    have e4 : rngI 0 4 = [0, 1, 2, 3] := by decide
    have go : ∀ (ms : List Int) (cells : List (List Int)), cells.length + ms.length ≤ 2 ^ 10 → foldT (tbZsplit_1 side mk2) ms cells = some (cells ++ (ms.map (pick side mk2)).filter notNil) := by
     intro ms
     induction ms with
     | nil => intro cells _; show some cells = _; simp
     | cons m ms ih =>
      intro cells hcl
      rw [List.length_cons] at hcl
      show ((tbZsplit_1 side mk2 m cells).bind fun e => foldT _ ms e) = _
      rw [cell_step h2' hz m cells (by omega), Option.bind_some, List.map_cons]
      by_cases q : notNil (pick side mk2 m) = true
      · rw [if_pos q, ih _ (by rw [List.length_append]; show cells.length + 1 + ms.length ≤ _; omega), List.filter_cons_of_pos q, List.append_assoc]; rfl
      · rw [if_neg q, ih _ (by omega), List.filter_cons_of_neg q]
    have := go (rngI 0 4) [] (by rw [e4]; decide)
    rw [this]; rfl
   rw [ef, Option.bind_some]
   exact OkP.ret ⟨h1, cells_of side mk2 h2' h3 hi hj hab⟩
end My
namespace My
open PySem Dl Tl
open L2 (ixN atI)
theorem rng_pre {n : Nat} {p q : List Int} {x : Int} (h : rngI 0 n = p ++ x :: q) : x = (p.length : Int) ∧ p.length < n := by
 have : (rngI 0 n)[p.length]? = some x := by rw [h, List.getElem?_append_right (Nat.le_refl _), Nat.sub_self]; rfl
 obtain ⟨h1, h2⟩ := rngI_get this
 exact ⟨h1, h2⟩
def sumL (cs : List (List Int)) : Nat := (cs.map List.length).sum
theorem sumL_app (a b : List (List Int)) : sumL (a ++ b) = sumL a + sumL b := by unfold sumL; rw [List.map_append, List.sum_append]
theorem sumL_flat : ∀ cs : List (List Int), (cs.flatMap fun c => c).length = sumL cs
 | [] => rfl
 | c :: cs => by rw [List.flatMap_cons, List.length_append, sumL_flat cs]; rfl
theorem CellsOk.sum {side : List Int} {cells : List (List Int)} (h : CellsOk side cells) : sumL cells = side.length := by
 rw [← sumL_flat]; exact h.perm.length_eq
theorem CellsOk.lt {side : List Int} {cells : List (List Int)} (h : CellsOk side cells) {c : List Int} (hc : c ∈ cells) : 1 ≤ c.length ∧ c.length < side.length := by
 obtain ⟨l1, l2, e⟩ := List.append_of_mem hc
 have h1 : 1 ≤ c.length := List.length_pos_iff.mpr (h.ne c hc)
 refine ⟨h1, ?_⟩
 have hs := h.sum
 rw [e, sumL_app] at hs
 have ht := h.two
 rw [e, List.length_append, List.length_cons] at ht
 have pos : ∀ l : List (List Int), (∀ d ∈ l, d ≠ []) → l.length ≤ sumL l := by
  intro l
  induction l with
  | nil => intro _; exact Nat.zero_le _
  | cons d l ih =>
   intro hd
   have := ih fun x hx => hd x (List.mem_cons_of_mem _ hx)
   have h1 : 1 ≤ d.length := List.length_pos_iff.mpr (hd d List.mem_cons_self)
   show l.length + 1 ≤ d.length + sumL l
   omega
 have p1 := pos l1 fun d hd => h.ne d (by rw [e]; exact List.mem_append_left _ hd)
 have p2 := pos l2 fun d hd => h.ne d (by rw [e]; exact List.mem_append_right _ (List.mem_cons_of_mem _ hd))
 have : sumL (c :: l2) = c.length + sumL l2 := rfl
 omega
theorem rngI_app (a : Int) (m n : Nat) : rngI a m ++ rngI (a + m) n = rngI a (m + n) := by
 unfold rngI
 rw [List.range_add, List.map_append, List.map_map]
 congr 1
 exact List.map_congr_left fun k _ => by show a + (m : Int) + (k : Int) = a + ((m + k : Nat) : Int); omega
theorem rngI_one (a : Int) : rngI a 1 = [a] := by
 show [a + ((0 : Nat) : Int)] = [a]
 rw [show a + ((0 : Nat) : Int) = a by omega]
theorem tree_ok : ∀ (n : Nat) (sides : List (List Int)) (src ends : List Int), isSrc src → meas sides < n → (∀ s ∈ sides, s ≠ []) → sides.length ≤ 2 ^ 10 → ends.length + vol sides ≤ 2 ^ 10 →
  OkP (tZtree n sides src ends) fun r => isSrc r.2.1 ∧ FitsT r.1 sides ∧ depth r.1 < n ∧ ∃ k, 1 ≤ k ∧ k ≤ vol sides ∧ r.2.2.length = ends.length + k ∧ leaves r.1 = rngI ends.length k
 | 0, _, _, _, _, h, _, _, _ => absurd h (Nat.not_lt_zero _)
 | n + 1, sides, src, ends, hs, hm, hne, hl, hv => by
  show OkP (tsZtree (tZtree n) sides src ends) _
  unfold tsZtree
  refine OkP.rng (by omega) (by omega) ?_
  rw [Int.toNat_natCast]
  have ew : mapF (fcZtree_1 (tZtree n) sides) (rngI 0 sides.length) = some ((rngI 0 sides.length).filter fun k => decide ((1 : Int) < (((sides.getD k.toNat []).length : Nat) : Int))) := by
   refine mapF_filter (f := fcZtree_1 (tZtree n) sides) (rngI 0 sides.length) fun k hk => ?_
   obtain ⟨h0, h1⟩ := mem_rngI.mp hk
   unfold fcZtree_1
   obtain ⟨a, ea, ga⟩ := atI_i (xs := sides) h0 (by omega)
   rw [ea, Option.bind_some]
   have em : sides.getD k.toNat [] = a := by rw [List.getD_eq_getElem?_getD, ga]; rfl
   rw [em]
   by_cases q : (1 : Int) < ((a.length : Nat) : Int) <;> simp [q]
  rw [ew, Option.bind_some]
  generalize hw : (rngI 0 sides.length).filter (fun k => decide ((1 : Int) < (((sides.getD k.toNat []).length : Nat) : Int))) = wide
  have wmem : ∀ k ∈ wide, 0 ≤ k ∧ k < sides.length ∧ ∃ side, sides[k.toNat]? = some side ∧ 2 ≤ side.length := fun k hk => by
   rw [← hw] at hk
   obtain ⟨h1, h2⟩ := List.mem_filter.mp hk
   obtain ⟨h0, h3⟩ := mem_rngI.mp h1
   have hlt : k.toNat < sides.length := by omega
   have h2 := of_decide_eq_true h2
   rw [List.getD_eq_getElem?_getD, List.getElem?_eq_getElem hlt] at h2
   exact ⟨h0, h3, _, List.getElem?_eq_getElem hlt, by have h2 : (1 : Int) < (((sides[k.toNat]).length : Nat) : Int) := h2; omega⟩
  have wlen : wide.length ≤ 2 ^ 10 := by
   rw [← hw]
   refine Nat.le_trans (List.length_filter_le _ _) ?_
   rw [rngI_len]; exact hl
  refine OkP.bind (Q := fun p : Bool × List Int => isSrc p.2 ∧ (p.1 = false → wide ≠ [])) ?_ fun p hp => ?_
  · refine OkP.iteB (fun q => OkP.ret ⟨hs, fun z => nomatch z⟩) fun q => ?_
    refine OkP.bind (draw_is hs (by decide)) fun r hr => OkP.ret ⟨hr.1, fun _ z => by rw [z] at q; cases q⟩
  obtain ⟨c, src1⟩ := p
  obtain ⟨hs1, hc⟩ := hp
  refine OkP.iteB (fun q => ?_) fun q => ?_
  · refine OkP.gz (by have := vol_pos sides; omega) (OkP.ret ⟨hs1, .fin _ _, Nat.zero_lt_succ _, 1, Nat.le_refl 1, vol_pos sides, by rw [List.length_append]; rfl, ?_⟩)
    dsimp only
    rw [List.length_append, rngI_one]
    unfold leaves
    show [((ends.length + 1 : Nat) : Int) - 1] = _
    congr 1
    omega
  · have wne := hc q
    have wpos : 0 < wide.length := List.length_pos_iff.mpr wne
    refine OkP.bind (draw_is hs1 ⟨by omega, by omega⟩) fun r hr => ?_
    refine OkP.at hr.2.1 hr.2.2 fun party hparty => ?_
    obtain ⟨p0, pl, side, hside, side2⟩ := wmem party (List.mem_of_getElem? hparty)
    refine OkP.at p0 pl fun side' hside' => ?_
    have es : side' = side := by rw [hside] at hside'; exact (Option.some.inj hside').symm
    subst es
    obtain ⟨V, hV, V0, hVs⟩ := vol_set hside
    obtain ⟨M, hM, hMs⟩ := meas_set hside
    have hsl : side'.length ≤ vol sides := by rw [hV]; exact Nat.le_trans (Nat.le_max_right _ _) (Nat.le_mul_of_pos_right _ V0)
    refine OkP.bind (split_ok hr.1 side2 (by omega)) fun sp hsp => ?_
    obtain ⟨cells, src2⟩ := sp
    obtain ⟨hs2, hcells⟩ := hsp
    have hsum : sumL cells = side'.length := hcells.sum
    have hVV : vol sides = side'.length * V := by rw [hV, Nat.max_eq_right (by omega)]
    refine OkP.bind (OkP.fold (fun pre (env : List Int × List Int × List (List Int × QT)) => isSrc env.1 ∧ env.2.2.map (fun b => b.1) = pre ∧ (∀ b ∈ env.2.2, FitsT b.2 (sides.set party.toNat b.1) ∧ depth b.2 < n) ∧ ∃ k, k ≤ V * sumL pre ∧ pre.length ≤ k ∧ env.2.1.length = ends.length + k ∧ (env.2.2.flatMap fun b => leaves b.2) = rngI ends.length k) [] cells (src2, ends, []) ⟨hs2, rfl, (fun b hb => absurd hb List.not_mem_nil), 0, Nat.zero_le _, Nat.le_refl 0, rfl, rfl⟩ fun pre cell post env eq hP => ?_) fun env hP => ?_
    · have eq : cells = pre ++ cell :: post := eq
      obtain ⟨s3, e3, b3⟩ := env
      obtain ⟨hs3, hb3, hf3, k, hk1, hk4, hk2, hk3⟩ := hP
      dsimp only at hs3 hb3 hf3 hk2 hk3
      have hcm : cell ∈ cells := by rw [eq]; simp
      obtain ⟨hc1, hc2⟩ := hcells.lt hcm
      have hbnd : V * sumL pre + V * cell.length ≤ vol sides := by
       rw [hVV, ← Nat.mul_add, Nat.mul_comm]
       refine Nat.mul_le_mul_right V ?_
       rw [← hsum, eq, sumL_app]
       have : sumL (cell :: post) = cell.length + sumL post := rfl
       omega
      have hvs : vol (sides.set party.toNat cell) = V * cell.length := by rw [hVs, Nat.max_eq_right hc1, Nat.mul_comm]
      have hblen : b3.length = pre.length := by rw [← hb3, List.length_map]
      unfold tbZtree_1
      have l1 : (cutD sides none (some party)).length ≤ 2 ^ 10 := by
       rw [show party = ((party.toNat : Nat) : Int) by omega, cutT sides (by omega)]
       exact Nat.le_trans (List.length_take_le _ _) (by omega)
      have lset := congrArg List.length (set_cut sides party cell p0 pl)
      rw [List.length_append, List.length_append, List.length_set] at lset
      have l11 : ([cell] : List (List Int)).length = 1 := rfl
      refine OkP.gz (by omega) (OkP.gz (by rw [List.length_append]; omega) ?_)
      rw [set_cut sides party cell p0 pl]
      refine OkP.bind (tree_ok n (sides.set party.toNat cell) s3 e3 hs3 (by rw [hMs]; omega) (set_ne hne (by intro z; rw [z] at hc1; cases hc1)) (by rw [List.length_set]; exact hl) (by rw [hvs, hk2]; omega)) fun t ht => ?_
      obtain ⟨t1, s4, e4⟩ := t
      obtain ⟨hs4, hfit, hdep, k', hk'1, hk'2, hk'3, hk'4⟩ := ht
      dsimp only at hs4 hfit hdep hk'3 hk'4
      have hpl : pre.length ≤ 2 ^ 10 := by omega
      refine OkP.gz (by rw [hblen]; omega) (OkP.ret ⟨hs4, by dsimp only; rw [List.map_append, hb3]; rfl, fun b hb => ?_, k + k', ?_, ?_, by dsimp only; omega, ?_⟩)
      · rcases List.mem_append.mp hb with hb | hb
        · exact hf3 b hb
        · rw [List.mem_singleton.mp hb]; exact ⟨hfit, hdep⟩
      · rw [sumL_app, Nat.mul_add]
        have : sumL [cell] = cell.length := rfl
        rw [this, ← hvs]
        omega
      · rw [List.length_append]; show pre.length + 1 ≤ k + k'; omega
      · dsimp only
        rw [List.flatMap_append, hk3]
        show _ ++ (leaves t1 ++ []) = _
        rw [List.append_nil, hk'4, hk2, ← rngI_app]
        congr 2
    · obtain ⟨s3, e3, b3⟩ := env
      obtain ⟨hs3, hb3, hf3, k, hk1, hk4, hk2, hk3⟩ := hP
      dsimp only at hs3 hb3 hf3 hk2 hk3
      have hb3 : b3.map (fun b => b.1) = cells := hb3
      have hk1 : k ≤ V * sumL cells := hk1
      have hk4 : cells.length ≤ k := hk4
      have hfm : (b3.flatMap fun b => b.1) = cells.flatMap fun c => c := by rw [← hb3, List.flatMap_map]
      have hmemc : ∀ b ∈ b3, b.1 ∈ cells := fun b hb => by rw [← hb3]; exact List.mem_map.mpr ⟨b, hb, rfl⟩
      have htwo : 2 ≤ cells.length := hcells.two
      have hlen : b3.length = cells.length := by rw [← hb3, List.length_map]
      have n1 : 1 ≤ n := by
       have hb0 : b3 ≠ [] := fun z => by rw [z] at hlen; rw [← hlen] at htwo; cases htwo
       obtain ⟨b, hb⟩ := List.exists_mem_of_ne_nil b3 hb0
       have := (hf3 b hb).2
       omega
      refine OkP.ret ⟨hs3, ?_, ?_, k, by omega, ?_, hk2, ?_⟩
      · dsimp only
        have := FitsT.ask party.toNat (QTs.of b3) sides side' hside (by rw [QTs.l_of]; omega) (by rw [QTs.l_of, hfm]; exact hcells.perm) (by rw [QTs.l_of]; exact fun b hb => hcells.ne _ (hmemc b hb)) (by rw [QTs.l_of]; exact fun b hb => hcells.sub _ (hmemc b hb)) (by rw [QTs.l_of]; exact fun b hb => (hf3 b hb).1)
        rw [show ((party.toNat : Nat) : Int) = party by omega] at this
        exact this
      · show 1 + depths (QTs.of b3) < n + 1
        have : depths (QTs.of b3) ≤ n - 1 := depths_lt (by rw [QTs.l_of]; exact fun b hb => by have := (hf3 b hb).2; omega)
        omega
      · rw [hVV, Nat.mul_comm, ← hsum]; exact hk1
      · dsimp only
        rw [leaves_ask, QTs.l_of]; exact hk3
end My
namespace My
open PySem Dl Tl
open L2 (ixN atI)
def fullS (sizes : List Int) : List (List Int) := sizes.map fun s => rngI 0 s.toNat
structure SizesOk (cap : Nat) (sizes : List Int) : Prop where
 n1 : 1 ≤ sizes.length
 n7 : sizes.length ≤ 7
 pos : ∀ s ∈ sizes, 1 ≤ s ∧ s ≤ 6
 cap : vol (fullS sizes) ≤ cap
theorem fullS_app (a b : List Int) : fullS (a ++ b) = fullS a ++ fullS b := by unfold fullS; rw [List.map_append]
theorem rngI_ne {n : Nat} (h : 1 ≤ n) : rngI 0 n ≠ [] := fun z => by
 have := congrArg List.length z
 rw [rngI_len] at this
 simp at this; omega
theorem vol_snoc (sizes : List Int) (s : Int) (h : 1 ≤ s) : ((vol (fullS (sizes ++ [s])) : Nat) : Int) = (vol (fullS sizes) : Int) * s := by
 rw [fullS_app]
 show ((vol (fullS sizes ++ [rngI 0 s.toNat]) : Nat) : Int) = _
 rw [vol_app, rngI_len, Nat.max_eq_right (by omega), Int.natCast_mul]
 congr 1
 omega
theorem sizes_ok {src : List Int} (hs : isSrc src) {st cap : Int} (h1 : 1 ≤ st ∧ st ≤ 6) (hc : 1 ≤ cap ∧ cap ≤ 2 ^ 10) : OkP (tZsizes src 7 st cap) fun r => isSrc r.2 ∧ SizesOk cap.toNat r.1 := by
 unfold tZsizes
 refine OkP.bind (draw_is hs (by decide)) fun r hr => ?_
 obtain ⟨hr0, hr1, hr2⟩ := hr
 refine OkP.bind (Q := fun v : Int => 1 ≤ v ∧ v ≤ 6) ?_ fun v hv => ?_
 · have : r.1 = 0 ∨ r.1 = 1 ∨ r.1 = 2 ∨ r.1 = 3 := by omega
   rcases this with e | e | e | e <;> rw [e] <;> exact ⟨_, rfl, by decide⟩
 have top : ∃ top : Int, (if v < st then v else st) = top ∧ 1 ≤ top ∧ top ≤ 6 := ⟨_, rfl, by split <;> omega⟩
 obtain ⟨top, et, t1, t6⟩ := top
 rw [et]
 refine OkP.bind (draw_is hr0 (by decide)) fun r2 hr2 => ?_
 obtain ⟨hq0, hq1, hq2⟩ := hr2
 refine OkP.rng (by omega) (by omega) ?_
 refine OkP.bind (OkP.fold (fun pre (env : List Int × List Int × Int) => isSrc env.1 ∧ env.2.1.length = pre.length ∧ (∀ s ∈ env.2.1, 1 ≤ s ∧ s ≤ 6) ∧ env.2.2 = ((vol (fullS env.2.1) : Nat) : Int) ∧ env.2.2 ≤ cap) [] (rngI 0 (1 + r2.1).toNat) (r2.2, [], 1) ⟨hq0, rfl, (fun s h => absurd h List.not_mem_nil), rfl, hc.1⟩ fun pre x post env eq hP => ?_) fun env hP => ?_
 · obtain ⟨s1, sz, many⟩ := env
   obtain ⟨p1, p2, p3, p4, p5⟩ := hP
   dsimp only at p1 p2 p3 p4 p5
   have hlen : pre.length < (1 + r2.1).toNat := (rng_pre (show rngI 0 (1 + r2.1).toNat = pre ++ x :: post from eq)).2
   unfold tbZsizes_1
   dsimp only
   refine OkP.bind (draw_is p1 ⟨by omega, by omega⟩) fun d hd => ?_
   have m1 : ∀ z : Int, 1 ≤ z ∧ z ≤ 6 → mulOk many z = true := fun z hz => mulOk_r (decide_eq_true (by omega))
   have vp := vol_pos (fullS sz)
   refine OkP.bind (Q := fun z : Int => 1 ≤ z ∧ z ≤ 6 ∧ many * z ≤ cap) ?_ fun z hz => ?_
   · refine OkP.gb (m1 _ (by omega)) ?_
     refine OkP.iteB (fun q => OkP.ret ⟨by omega, by omega, by omega⟩) fun q => OkP.ret ⟨by omega, by omega, ?_⟩
     have := of_decide_eq_false q
     omega
   · refine OkP.gb (m1 _ ⟨hz.1, hz.2.1⟩) ?_
     refine OkP.gz (by omega) (OkP.ret ⟨hd.1, by dsimp only; rw [List.length_append, List.length_append, p2]; rfl, fun s hsm => ?_, ?_, hz.2.2⟩)
     · rcases List.mem_append.mp hsm with h | h
       · exact p3 s h
       · rw [List.mem_singleton.mp h]; exact ⟨hz.1, hz.2.1⟩
     · dsimp only
       rw [vol_snoc sz z hz.1, p4]
 · obtain ⟨s1, sz, many⟩ := env
   obtain ⟨p1, p2, p3, p4, p5⟩ := hP
   have p2 : sz.length = (rngI 0 (1 + r2.1).toNat).length := p2
   rw [rngI_len] at p2
   dsimp only at p1 p3 p4 p5 ⊢
   refine OkP.bind (draw_is p1 ⟨by omega, by omega⟩) fun d hd => ?_
   obtain ⟨d0, d1, d2⟩ := hd
   have ed : d.1 = ((d.1.toNat : Nat) : Int) := by omega
   rw [ed, cutR sz (by omega), cutT sz (by omega)]
   have hl : (sz.drop d.1.toNat).length + (sz.take d.1.toNat).length = sz.length := by rw [List.length_drop, List.length_take]; omega
   refine OkP.gz (by omega) (OkP.ret ⟨d0, ?_⟩)
   refine ⟨by dsimp only; rw [List.length_append]; omega, by dsimp only; rw [List.length_append]; omega, fun s hsm => ?_, ?_⟩
   · rcases List.mem_append.mp hsm with h | h
     · exact p3 s (List.mem_of_mem_drop h)
     · exact p3 s (List.mem_of_mem_take h)
   · dsimp only
     rw [fullS_app, vol_split, Nat.mul_comm, ← vol_split, ← fullS_app, List.take_append_drop]
     omega
def gd (n : Nat) : Nat := if n ≤ 1 then 0 else if n ≤ 2 then 1 else if n ≤ 3 then 2 else if n ≤ 4 then 3 else if n ≤ 5 then 4 else if n ≤ 11 then 5 else if n ≤ 17 then 6 else if n ≤ 23 then 7 else 8
theorem gd_fin : ∀ s : Fin 7, ∀ n : Fin 25, 1 ≤ s.val → s.val * n.val ≤ 24 → 1 ≤ n.val → (s.val - 1) + gd n.val ≤ gd (s.val * n.val) := by decide +kernel
theorem gd_step (s : Nat) (h1 : 1 ≤ s) (h6 : s ≤ 6) (n : Nat) (hn : n ≤ 24) (h : s * n ≤ 24) (hn1 : 1 ≤ n) : (s - 1) + gd n ≤ gd (s * n) := gd_fin ⟨s, by omega⟩ ⟨n, by omega⟩ h1 h hn1
theorem meas_full : ∀ {sizes : List Int}, (∀ s ∈ sizes, 1 ≤ s ∧ s ≤ 6) → vol (fullS sizes) ≤ 24 → meas (fullS sizes) ≤ gd (vol (fullS sizes))
 | [], _, _ => by decide
 | s :: sizes, h, hv => by
  have hs := h s List.mem_cons_self
  have ev : vol (fullS (s :: sizes)) = s.toNat * vol (fullS sizes) := by
   show max 1 (rngI 0 s.toNat).length * vol (fullS sizes) = _
   rw [rngI_len, Nat.max_eq_right (by omega)]
  rw [ev] at hv ⊢
  have vp := vol_pos (fullS sizes)
  have hle : vol (fullS sizes) ≤ s.toNat * vol (fullS sizes) := Nat.le_mul_of_pos_left _ (by omega)
  have ih := meas_full (sizes := sizes) (fun x hx => h x (List.mem_cons_of_mem _ hx)) (by omega)
  show ((rngI 0 s.toNat).length - 1) + meas (fullS sizes) ≤ _
  rw [rngI_len]
  have := gd_step s.toNat (by omega) (by omega) (vol (fullS sizes)) (by omega) hv vp
  omega
theorem gd_8 (n : Nat) : gd n ≤ 8 := by unfold gd; (repeat' split) <;> omega
theorem full_ne {sizes : List Int} (h : ∀ s ∈ sizes, 1 ≤ s ∧ s ≤ 6) : ∀ s ∈ fullS sizes, s ≠ [] := fun s hs => by
 obtain ⟨x, hx, rfl⟩ := List.mem_map.mp hs
 have := h x hx
 exact rngI_ne (by omega)
theorem full_eq {sizes : List Int} (h : ∀ s ∈ sizes, 1 ≤ s ∧ s ≤ 6) : tZfull sizes = some (fullS sizes) := by
 unfold tZfull
 rw [mapT_map (g := fun s => rngI 0 s.toNat) sizes fun s hs => ?_]
 · rfl
 · unfold fcZfull_1
   have := h s hs
   rw [rngT_ok' (by omega) (by omega)]; rfl
def RowsOk (m : Nat) (s : Int) (rs : List (List Int)) : Prop := (rs.length : Int) = s ∧ ∀ row ∈ rs, row.length = m
abbrev WOk (m : Nat) (sizes : List Int) (W : W3) : Prop := All2 (RowsOk m) sizes W
theorem All2.snoc {α β : Type} {P : α → β → Prop} {xs : List α} {ys : List β} {x : α} {y : β} (h : All2 P xs ys) (k : P x y) : All2 P (xs ++ [x]) (ys ++ [y]) := by
 induction h with
 | nil => exact .cons k .nil
 | cons h _ ih => exact .cons h ih
theorem All2.len {α β : Type} {P : α → β → Prop} {xs : List α} {ys : List β} (h : All2 P xs ys) : ys.length = xs.length := forall2_len h
theorem All2.set {α β : Type} {P : α → β → Prop} {xs : List α} {ys : List β} (h : All2 P xs ys) : ∀ {i : Nat} {x : α} {y : β}, xs[i]? = some x → P x y → All2 P xs (ys.set i y) := by
 induction h with
 | nil => intro i x y e; simp at e
 | cons h t ih =>
  intro i x y e k
  cases i with
  | zero => cases e; exact .cons k t
  | succ i => exact .cons h (ih e k)
theorem All2.get {α β : Type} {P : α → β → Prop} {xs : List α} {ys : List β} (h : All2 P xs ys) : ∀ {i : Nat} {x : α}, xs[i]? = some x → ∃ y, ys[i]? = some y ∧ P x y := by
 induction h with
 | nil => intro i x e; simp at e
 | cons h t ih =>
  intro i x e
  cases i with
  | zero => cases e; exact ⟨_, rfl, h⟩
  | succ i => exact ih e
abbrev Plan : Type := W3 × List Int × List Int × Option QT
structure PlanOk (cap m : Nat) (r : Plan) : Prop where
 sz : SizesOk cap r.2.1
 m1 : 1 ≤ m
 mc : m ≤ cap + 4
 w : WOk m r.2.1 r.1
 tl : r.2.2.1.length = (combos (fullS r.2.1)).length
 tb : ∀ x ∈ r.2.2.1, 0 ≤ x ∧ x < (m : Int)
 tree : ∀ t, r.2.2.2 = some t → FitsT t (fullS r.2.1) ∧ depth t < 9 ∧ r.2.2.1 = (combos (fullS r.2.1)).map (hon t)
end My
namespace My
open PySem Dl Tl
open L2 (ixN atI)
def idxF (at_ : Int) (p : Int × Int) : Int := at_ * p.2 + p.1
def idx (sizes c : List Int) : Int := (List.zip c sizes).foldl idxF 0
def Plan.out (r : Plan) (c : List Int) : Int := r.2.2.1.getD (idx r.2.1 c).toNat 0
def Plan.wo (r : Plan) (p s o : Int) : Int := ((r.1.getD p.toNat []).getD s.toNat []).getD o.toNat 0
theorem idx_bd : ∀ {sizes c : List Int}, (∀ s ∈ sizes, 1 ≤ s) → inC c (fullS sizes) → ∀ a : Int, 0 ≤ a → a * (vol (fullS sizes) : Int) ≤ (List.zip c sizes).foldl idxF a ∧ (List.zip c sizes).foldl idxF a < (a + 1) * (vol (fullS sizes) : Int)
 | [], c, _, hc, a, h0 => by
  cases c with
  | nil => show a * 1 ≤ a ∧ a < (a + 1) * 1; omega
  | cons x c => cases hc
 | s :: sizes, [], _, hc, a, h0 => by cases hc
 | s :: sizes, x :: c, h, hc, a, h0 => by
  have hs := h s List.mem_cons_self
  obtain ⟨hx, hc'⟩ : x ∈ rngI 0 s.toNat ∧ inC c (fullS sizes) := hc
  obtain ⟨x0, x1⟩ := mem_rngI.mp hx
  have hm : 0 ≤ a * s := Int.mul_nonneg h0 (by omega)
  obtain ⟨i1, i2⟩ := idx_bd (sizes := sizes) (c := c) (fun y hy => h y (List.mem_cons_of_mem _ hy)) hc' (a * s + x) (by omega)
  have ev : ((vol (fullS (s :: sizes)) : Nat) : Int) = s * (vol (fullS sizes) : Int) := by
   show ((max 1 (rngI 0 s.toNat).length * vol (fullS sizes) : Nat) : Int) = _
   rw [rngI_len, Nat.max_eq_right (by omega), Int.natCast_mul]
   congr 1; omega
  have hV := vol_pos (fullS sizes)
  rw [ev]
  show _ ≤ (List.zip c sizes).foldl idxF (a * s + x) ∧ (List.zip c sizes).foldl idxF (a * s + x) < _
  generalize (vol (fullS sizes) : Int) = V at *
  have e1 : a * (s * V) = a * s * V := (Int.mul_assoc a s V).symm
  have e2 : (a + 1) * (s * V) = a * s * V + s * V := by rw [Int.add_mul, Int.one_mul, e1]
  have e3 : (a * s + x) * V = a * s * V + x * V := Int.add_mul _ _ _
  have e4 : (a * s + x + 1) * V = a * s * V + x * V + V := by rw [Int.add_mul, Int.one_mul, e3]
  have V0 : 0 ≤ V := by omega
  have h1 : 0 ≤ x * V := Int.mul_nonneg x0 V0
  have h2 : (x + 1) * V ≤ s * V := Int.mul_le_mul_of_nonneg_right (by omega) V0
  have h3 : (x + 1) * V = x * V + V := by rw [Int.add_mul, Int.one_mul]
  rw [e1, e2]
  omega
theorem combos_full_len : ∀ {ss : List (List Int)}, (∀ s ∈ ss, s ≠ []) → (combos ss).length = vol ss
 | [], _ => rfl
 | s :: ss, h => by
  rw [combos_cons]
  have hs : 1 ≤ s.length := List.length_pos_iff.mpr (h s List.mem_cons_self)
  rw [flatMap_len _ (combos ss).length s fun a _ => List.length_map _, combos_full_len fun x hx => h x (List.mem_cons_of_mem _ hx)]
  show _ = max 1 s.length * vol ss
  rw [Nat.max_eq_right hs]
section
variable {cap m : Nat} {r : Plan}
theorem PlanOk.pos1 (h : PlanOk cap m r) : ∀ s ∈ r.2.1, 1 ≤ s := fun s hs => (h.sz.pos s hs).1
theorem PlanOk.tlen (h : PlanOk cap m r) : r.2.2.1.length = vol (fullS r.2.1) := by rw [h.tl, combos_full_len (full_ne h.sz.pos)]
theorem PlanOk.idx (h : PlanOk cap m r) {c : List Int} (hc : inC c (fullS r.2.1)) : 0 ≤ My.idx r.2.1 c ∧ My.idx r.2.1 c < (r.2.2.1.length : Int) := by
 have := idx_bd h.pos1 hc 0 (Int.le_refl 0)
 rw [h.tlen]
 unfold My.idx
 omega
theorem PlanOk.out (h : PlanOk cap m r) {c : List Int} (hc : inC c (fullS r.2.1)) : atI r.2.2.1 (My.idx r.2.1 c) = some (r.out c) ∧ 0 ≤ r.out c ∧ r.out c < (m : Int) := by
 obtain ⟨h0, h1⟩ := h.idx hc
 obtain ⟨x, e1, e2⟩ := atI_i h0 h1
 have e3 : r.out c = x := by unfold Plan.out; rw [List.getD_eq_getElem?_getD, e2]; rfl
 rw [e3]
 exact ⟨e1, h.tb x (List.mem_of_getElem? e2)⟩
end
theorem asc_rngI (n : Nat) : Asc (rngI 0 n) := by
 unfold rngI Asc
 rw [List.pairwise_map]
 exact List.pairwise_lt_range.imp fun h => by omega
def InOk (s : Int) (side : List Int) : Prop := side ≠ [] ∧ side.Sublist (rngI 0 s.toNat)
abbrev Inside (sizes : List Int) (sides : List (List Int)) : Prop := All2 InOk sizes sides
theorem Inside.asc {sizes : List Int} {sides : List (List Int)} (h : Inside sizes sides) : sides.map My.asc = sides := by
 induction h with
 | nil => rfl
 | cons h _ ih => rw [List.map_cons, ih, asc_self ((asc_rngI _).sublist h.2)]
theorem Inside.get {sizes : List Int} {sides : List (List Int)} (h : Inside sizes sides) {i : Nat} {side : List Int} (e : sides[i]? = some side) : ∃ s, sizes[i]? = some s ∧ side ≠ [] ∧ (∀ x ∈ side, 0 ≤ x ∧ x < s) ∧ Asc side := by
 obtain ⟨s, h1, h2, h3⟩ := forall2_get h i side e
 refine ⟨s, h1, h2, fun x hx => ?_, (asc_rngI _).sublist h3⟩
 obtain ⟨x0, x1⟩ := mem_rngI.mp (h3.subset hx)
 omega
theorem Inside.ne {sizes : List Int} {sides : List (List Int)} (h : Inside sizes sides) : ∀ s ∈ sides, s ≠ [] := fun s hs => by
 obtain ⟨x, _, h1, _⟩ := forall2_mem h s hs
 exact h1
end My
namespace My
open PySem Dl Tl
open L2 (ixN atI)
theorem lMax_ex {ns : List Int} (h : ns ≠ []) : ∃ m, lMax ns = some m ∧ m ∈ ns ∧ ∀ y ∈ ns, y ≤ m := by
 cases ns with
 | nil => exact absurd rfl h
 | cons n ns => exact ⟨_, rfl, (foldMax ns n).1, (foldMax ns n).2⟩
def ddF (acc : List Int) (x : Int) : List Int := if x ∈ acc then acc else acc ++ [x]
def dd (l : List Int) : List Int := l.foldl ddF []
end My
namespace My
open PySem Dl Tl
open L2 (ixN atI)
structure SdOk (s : List Int) : Prop where
 asc : Asc s
 pos : ∀ x ∈ s, 0 ≤ x
 len : s.length ≤ 2 ^ 10
theorem SdOk.sub {s c : List Int} (h : SdOk s) (hs : c.Sublist s) : SdOk c := ⟨List.Pairwise.sublist hs h.asc, fun x hx => h.pos x (hs.subset hx), Nat.le_trans hs.length_le h.len⟩
theorem side_rng {n : Int} (h : n ≤ 2 ^ 10) : SdOk (rngI 0 n.toNat) := ⟨asc_rngI _, fun x hx => (mem_rngI.mp hx).1, by rw [rngI_len]; omega⟩
theorem sides_full {sizes : List Int} (h : ∀ s ∈ sizes, 1 ≤ s ∧ s ≤ 6) : ∀ s ∈ fullS sizes, SdOk s := fun s hs => by
 obtain ⟨x, hx, rfl⟩ := List.mem_map.mp hs
 exact side_rng (by have := h x hx; omega)
theorem sides_set {sides : List (List Int)} {p : Nat} {c : List Int} (h : ∀ s ∈ sides, SdOk s) (hc : SdOk c) : ∀ s ∈ sides.set p c, SdOk s := fun s hs => by
 rcases List.mem_or_eq_of_mem_set hs with h1 | h1
 · exact h s h1
 · rw [h1]; exact hc
theorem asc_nd1 {l : List Int} (h : Asc l) : l.Nodup := List.Pairwise.imp (fun z => by omega) h
theorem seen_t : ∀ (c seen : List Int), (seen ++ c).Nodup → (∀ x ∈ c, 0 ≤ x) → seen.length + c.length ≤ 2 ^ 20 → foldT tb_cells1 c seen = some (seen ++ c)
 | [], seen, _, _, _ => by rw [List.append_nil]; rfl
 | x :: c, seen, hn, hp, hl => by
  have h0 := hp x List.mem_cons_self
  have hx : x ∉ seen := fun z => by
   have := (List.nodup_append.mp hn).2.2 x z x List.mem_cons_self
   exact this rfl
  rw [List.length_cons] at hl
  show (tb_cells1 x seen).bind (foldT tb_cells1 c) = _
  have e : tb_cells1 x seen = some (seen ++ [x]) := by
   unfold tb_cells1
   rw [if_neg (by rintro (z | z); omega; exact hx z), gz_ok (by omega)]; rfl
  rw [e, Option.bind_some, seen_t c (seen ++ [x]) (by rw [List.append_assoc]; exact hn) (fun y hy => hp y (List.mem_cons_of_mem _ hy)) (by rw [List.length_append]; show _ + 1 + _ ≤ _; omega), List.append_assoc]
  rfl
theorem cells_fold : ∀ (l : List Br) (seen : List Int) (cells : List (List Int)), (seen ++ l.flatMap fun b => b.1).Nodup → (∀ b ∈ l, b.1 ≠ [] ∧ SdOk b.1) → seen.length + (l.flatMap fun b => b.1).length ≤ 2 ^ 20 → cells.length + l.length ≤ 2 ^ 20 →
  foldT (tb_cells2 t_ascending) l (seen, cells) = some (seen ++ l.flatMap fun b => b.1, cells ++ l.map fun b => b.1)
 | [], seen, cells, _, _, _, _ => by simp [foldT]
 | b :: l, seen, cells, hn, hb, h1, h2 => by
  obtain ⟨hb1, hb2⟩ := hb b List.mem_cons_self
  rw [List.flatMap_cons] at hn h1
  rw [List.length_append] at h1
  rw [List.length_cons] at h2
  have hl := hb2.len
  have hn1 : (seen ++ b.1).Nodup := by
   rw [← List.append_assoc] at hn
   exact (List.nodup_append.mp hn).1
  have e : tb_cells2 t_ascending b (seen, cells) = some (seen ++ b.1, cells ++ [b.1]) := by
   unfold tb_cells2
   dsimp only
   rw [if_neg (by rintro (z | z); exact hb1 z; omega), seen_t b.1 seen hn1 hb2.pos (by omega), Option.bind_some, ascending_eq (show (false, b.1).2.length ≤ _ from (show b.1.length ≤ _ by omega)), Option.bind_some, gz_ok (by omega)]
   show some (seen ++ b.1, cells ++ [asc b.1]) = _
   rw [asc_self hb2.asc]
  show (tb_cells2 t_ascending b (seen, cells)).bind (foldT _ l) = _
  rw [e, Option.bind_some, cells_fold l (seen ++ b.1) (cells ++ [b.1]) (by rw [List.append_assoc]; exact hn) (fun b' hb' => hb b' (List.mem_cons_of_mem _ hb')) (by rw [List.length_append]; omega) (by rw [List.length_append]; show _ + 1 + _ ≤ _; omega)]
  rw [List.append_assoc, List.append_assoc, List.flatMap_cons]
  rfl
theorem cells_t {l : List Br} {side : List Int} (hs : SdOk side) (hq : (l.flatMap fun b => b.1).Perm side) (hn : ∀ b ∈ l, b.1 ≠ []) (hsub : ∀ b ∈ l, b.1.Sublist side) (hl : l.length ≤ 2 ^ 10) : t_cells t_ascending l = some (l.map fun b => b.1) := by
 have hlen := hq.length_eq
 have hsl := hs.len
 unfold t_cells
 rw [cells_fold l [] [] (by rw [List.nil_append]; exact (hq.nodup_iff).mpr (asc_nd1 hs.asc)) (fun b hb => ⟨hn b hb, hs.sub (hsub b hb)⟩) (by show 0 + _ ≤ _; omega) (by show 0 + _ ≤ _; omega)]
 rfl
theorem perm_len {l : List Br} {side : List Int} (hq : (l.flatMap fun b => b.1).Perm side) (hn : ∀ b ∈ l, b.1 ≠ []) : l.length ≤ side.length := by
 rw [← hq.length_eq]
 clear hq
 induction l with
 | nil => exact Nat.le_refl _
 | cons b l ih =>
  have h1 : 1 ≤ b.1.length := by
   have := hn b List.mem_cons_self
   cases h : b.1 with
   | nil => exact absurd h this
   | cons x xs => rw [List.length_cons]; omega
  have := ih fun b' hb => hn b' (List.mem_cons_of_mem _ hb)
  rw [List.flatMap_cons, List.length_append, List.length_cons]; omega
theorem chk_fold {tc : QT → List Int → Option QT} {brs : List Br} {path : List Int} (hp : path.length + 1 ≤ 2 ^ 20) (hb : brs.length ≤ 2 ^ 20) : ∀ (l pre : List Br), brs = pre ++ l → (∀ b ∈ l, ∀ i : Int, tc b.2 (path ++ [i]) = some b.2) →
  foldT (tb_checked tc brs path) ((((l.map fun b => b.1)).zipIdx pre.length).map fun p => (((p.2 : Nat) : Int), p.1)) pre = some brs
 | [], pre, e, _ => by rw [e, List.append_nil]; rfl
 | b :: l, pre, e, h => by
  have h1 : atI brs ((pre.length : Nat) : Int) = some b := by rw [atI_nat, e]; simp
  have h2 : tb_checked tc brs path (((pre.length : Nat) : Int), b.1) pre = some (pre ++ [b]) := by
   have := congrArg List.length e
   rw [List.length_append, List.length_cons] at this
   unfold tb_checked
   dsimp only
   rw [h1, Option.bind_some, gz_ok hp, Option.bind_some, h b List.mem_cons_self, Option.bind_some, gz_ok (by omega)]; rfl
  rw [List.map_cons, List.zipIdx_cons, List.map_cons]
  show (tb_checked tc brs path (((pre.length : Nat) : Int), b.1) pre).bind (foldT _ _) = _
  rw [h2, Option.bind_some]
  have := chk_fold (tc := tc) hp hb l (pre ++ [b]) (by rw [List.append_assoc]; exact e) fun b' hb' => h b' (List.mem_cons_of_mem _ hb')
  rw [List.length_append] at this
  exact this
theorem enuT_ok {α : Type} {xs : List α} (h : xs.length ≤ 2 ^ 20) : enuT xs = some (xs.zipIdx.map fun p => (((p.2 : Nat) : Int), p.1)) := if_pos (by omega)
theorem checked_ok : ∀ (n : Nat) (t : QT) (sides : List (List Int)) (path : List Int), FitsT t sides → (∀ s ∈ sides, SdOk s) → depth t < n → (∀ x ∈ leaves t, 0 ≤ x) → path.length + n ≤ 2 ^ 10 → Tl.t_checked t_ascending n t path = some t
 | 0, _, _, _, _, _, h, _, _ => absurd h (Nat.not_lt_zero _)
 | n + 1, .fin v, sides, path, _, _, _, hv, _ => by
  unfold Tl.t_checked
  exact if_pos (hv v (by unfold leaves; exact List.mem_singleton.mpr rfl))
 | n + 1, .ask p bs, sides, path, hf, hs, hd, hv, hp => by
  cases hf with
  | ask p bs sides side hp' h2 hq hn hsub hr =>
   have hside := hs side (List.mem_of_getElem? hp')
   have hl := perm_len hq hn
   have hsl := hside.len
   unfold Tl.t_checked
   rw [if_neg (by omega), cells_t hside hq hn hsub (by omega), Option.bind_some, enuT_ok (by rw [List.length_map]; omega), Option.bind_some]
   have := chk_fold (tc := Tl.t_checked t_ascending n) (brs := bs.l) (path := path) (by omega) (by omega) bs.l [] rfl fun b hb i => by
    have hdb := depth_ask (p := (p : Int)) hb
    refine checked_ok n b.2 (sides.set p b.1) (path ++ [i]) (hr b hb) (sides_set hs (hside.sub (hsub b hb))) (by omega) (fun x hx => hv x ?_) (by rw [List.length_append]; show _ + 1 + _ ≤ _; omega)
    rw [leaves_ask]
    exact List.mem_flatMap.mpr ⟨b, hb, hx⟩
   rw [show ([] : List Br).length = 0 from rfl] at this
   rw [this, Option.bind_some, QTs.of_l]
theorem depths_ex : ∀ {bs : QTs}, bs.l ≠ [] → ∃ b ∈ bs.l, depth b.2 = depths bs
 | .nil, h => absurd rfl h
 | .cons c t .nil, _ => ⟨(c, t), List.mem_cons_self, by unfold depths depths; simp⟩
 | .cons c t (.cons c' t' r), _ => by
  obtain ⟨b, hb, e⟩ := depths_ex (bs := .cons c' t' r) (by intro z; unfold QTs.l at z; cases z)
  rw [depths]
  by_cases h : depth t ≤ depths (.cons c' t' r)
  · exact ⟨b, List.mem_cons_of_mem _ hb, by rw [e]; omega⟩
  · exact ⟨(c, t), List.mem_cons_self, by show depth t = _; omega⟩
theorem length_t : ∀ (n : Nat) (t : QT) (sides : List (List Int)), FitsT t sides → depth t < n → t_length_of n t = some ((depth t : Nat) : Int)
 | 0, _, _, _, h => absurd h (Nat.not_lt_zero _)
 | n + 1, .fin v, sides, _, _ => by
  show ts_length_of _ _ = _
  unfold ts_length_of depth
  rfl
 | n + 1, .ask p bs, sides, hf, hd => by
  cases hf with
  | ask p bs sides side hp' h2 hq hn hsub hr =>
   show ts_length_of (t_length_of n) (.ask (p : Int) bs) = _
   unfold ts_length_of
   rw [tag_ask, if_neg Bool.false_ne_true]
   show ((some bs.l).bind _) = _
   have hm : mapT (fc_length_of_1 (t_length_of n) (.ask (p : Int) bs)) bs.l = some (bs.l.map fun b => ((depth b.2 : Nat) : Int)) := by
    refine mapT_map bs.l fun b hb => ?_
    have hdb := depth_ask (p := (p : Int)) hb
    unfold fc_length_of_1
    rw [length_t n b.2 _ (hr b hb) (by omega)]; rfl
   have hne : bs.l ≠ [] := by intro z; rw [z] at h2; simp at h2
   obtain ⟨b0, hb0, e0⟩ := depths_ex hne
   obtain ⟨m, e1, e2, e3⟩ := lMax_ex (ns := bs.l.map fun b => ((depth b.2 : Nat) : Int)) (by intro z; exact hne (List.map_eq_nil_iff.mp z))
   have em : m = ((depths bs : Nat) : Int) := by
    obtain ⟨b, hb, rfl⟩ := List.mem_map.mp e2
    have h1 := depths_le hb
    have h2 := e3 _ (List.mem_map.mpr ⟨b0, hb0, rfl⟩)
    omega
   rw [Option.bind_some, hm, Option.bind_some, e1, Option.bind_some, em]
   unfold depth
   congr 1
def treeOf (t : QT) : T_Tree := ⟨t, ((depth t : Nat) : Int)⟩
theorem tree_t {t : QT} {sides : List (List Int)} (hf : FitsT t sides) (hs : ∀ s ∈ sides, SdOk s) (hd : depth t < 9) (hv : ∀ x ∈ leaves t, 0 ≤ x) : t_Tree_DinitD t = some (treeOf t) := by
 unfold t_Tree_DinitD t_checked
 rw [checked_ok 12 t sides [] hf hs (by omega) hv (by decide), Option.bind_some]
 dsimp only
 rw [length_t 9 t sides hf hd]
 rfl
theorem tag_ask2 (p : Int) (bs : QTs) : decide (QT.tag (.ask p bs) = ("ask" : Str)) = true := decide_eq_true rfl
theorem tag_fin2 (n : Int) : decide (QT.tag (.fin n) = ("ask" : Str)) = false := (by decide +kernel : decide (("end" : Str) = ("ask" : Str)) = false)
end My
namespace My
open PySem Dl Tl
open L2 (ixN atI)
theorem plain_mono : ∀ (n m : Nat) (d : D), plainN n d = true → n ≤ m → plainN m d = true
 | 0, _, _, h, _ => by cases h
 | n + 1, 0, _, _, h => absurd h (by omega)
 | n + 1, m + 1, d, h, hm => by
  cases d with
  | lst ds =>
   obtain ⟨h1, h2⟩ := Bool.and_eq_true_iff.mp (show (decide (ds.length ≤ 2 ^ 16) && ds.all (plainN n)) = true from h)
   show (decide (ds.length ≤ 2 ^ 16) && ds.all (plainN m)) = true
   rw [h1, Bool.true_and]
   exact List.all_eq_true.mpr fun x hx => plain_mono n m x (List.all_eq_true.mp h2 x hx) (by omega)
  | tup ds =>
   obtain ⟨h1, h2⟩ := Bool.and_eq_true_iff.mp (show (decide (ds.length ≤ 2 ^ 16) && ds.all (plainN n)) = true from h)
   show (decide (ds.length ≤ 2 ^ 16) && ds.all (plainN m)) = true
   rw [h1, Bool.true_and]
   exact List.all_eq_true.mpr fun x hx => plain_mono n m x (List.all_eq_true.mp h2 x hx) (by omega)
  | non => rfl
  | bl _ => rfl
  | int _ => rfl
  | str _ => exact h
  | _ => cases h
theorem plain_tup {n : Nat} {ds : List D} (h1 : ds.length ≤ 2 ^ 16) (h2 : ∀ d ∈ ds, plainN n d = true) : plainN (n + 1) (.tup ds) = true := by
 show (decide (ds.length ≤ 2 ^ 16) && ds.all (plainN n)) = true
 rw [decide_eq_true h1, Bool.true_and]
 exact List.all_eq_true.mpr h2
theorem plain_ints {n : Nat} {l : List Int} (h : l.length ≤ 2 ^ 16) : plainN (n + 2) (.tup (l.map D.int)) = true :=
 plain_tup (by rw [List.length_map]; exact h) fun d hd => by
  obtain ⟨x, _, rfl⟩ := List.mem_map.mp hd
  rfl
theorem plain_tree : ∀ (n : Nat) (t : QT) (sides : List (List Int)), FitsT t sides → (∀ s ∈ sides, SdOk s) → depth t < n → plainN (3 * n + 2) (e_tree t) = true
 | 0, _, _, _, _, h => absurd h (Nat.not_lt_zero _)
 | n + 1, .fin v, _, _, _, _ => by
  rw [e_tree_fin]
  refine plain_tup (n := 3 * n + 4) (by simp) fun d hd => ?_
  rcases List.mem_cons.mp hd with rfl | hd
  · exact ok_end
  · rw [List.mem_singleton.mp hd]; rfl
 | n + 1, .ask p bs, sides, hf, hs, hd => by
  cases hf with
  | ask p bs sides side hp' h2 hq hn hsub hr =>
   have hside := hs side (List.mem_of_getElem? hp')
   have hl := perm_len hq hn
   have hsl := hside.len
   rw [e_tree_a, e_trees_l]
   refine plain_tup (n := 3 * n + 4) (by simp) fun d hd' => ?_
   rcases List.mem_cons.mp hd' with rfl | hd'
   · exact ok_ask
   rcases List.mem_cons.mp hd' with rfl | hd'
   · rfl
   rw [List.mem_singleton.mp hd']
   refine plain_tup (n := 3 * n + 3) (by rw [List.length_map]; omega) fun d hd' => ?_
   obtain ⟨b, hb, rfl⟩ := List.mem_map.mp hd'
   have hdb := depth_ask (p := (p : Int)) hb
   refine plain_tup (n := 3 * n + 2) (by simp) fun d hd' => ?_
   rcases List.mem_cons.mp hd' with rfl | hd'
   · exact plain_ints (n := 3 * n) (by have := (hsub b hb).length_le; omega)
   rw [List.mem_singleton.mp hd']
   exact plain_tree n b.2 _ (hr b hb) (sides_set hs (hside.sub (hsub b hb))) (by omega)
theorem sameB_self (d : D) : sameB d d = true := by
 unfold sameB; simp
theorem same_self {d : D} (h : plainN 40 d = true) : tZsame d d = some true := by
 unfold tZsame
 rw [h, if_pos (by simp), sameB_self]
theorem same_tree {t : QT} {sides : List (List Int)} (hf : FitsT t sides) (hs : ∀ s ∈ sides, SdOk s) (hd : depth t < 9) : tZsame (e_tree t) (e_tree t) = some true :=
 same_self (plain_mono _ _ _ (plain_tree 9 t sides hf hs hd) (by decide))
end My
namespace My
open PySem Dl Tl
open L2 (ixN atI)
theorem forT_hit {α R : Type} {body : α → Unit → Option (Cf Unit R)} {x : α} {post : List α} {r : R} : ∀ pre : List α, (∀ y ∈ pre, body y () = some (.nx ())) → body x () = some (.rt r) → forT body (pre ++ x :: post) () = some (.rt r)
 | [], _, h => by
  show forT body (x :: post) () = _
  unfold forT; rw [h]; rfl
 | y :: pre, hp, h => by
  show forT body (y :: (pre ++ x :: post)) () = _
  unfold forT; rw [hp y List.mem_cons_self]
  exact forT_hit pre (fun z hz => hp z (List.mem_cons_of_mem _ hz)) h
def sel (v : IB) (c : List Int) : Bool := !ibB v && decide (ibN v ∈ c)
theorem num_sel {v : IB} {c : List Int} (hc : ∀ x ∈ c, 0 ≤ x) {α : Type} (f : Bool → Option α) : ((t_is_number_b v).bind fun b => f (b && decide (ibN v ∈ c))) = f (sel v c) := by
 cases v with
 | b x => rfl
 | i n =>
  show ((t_is_number n).bind _) = _
  rw [is_number_eq, Option.bind_some]
  congr 1
  show (decide (0 ≤ n) && decide (n ∈ c)) = decide (n ∈ c)
  by_cases h : n ∈ c
  · rw [decide_eq_true h, decide_eq_true (hc n h)]; rfl
  · rw [decide_eq_false h, Bool.and_false]
theorem sel_split (v : IB) : ∀ l : List Br, (∀ b ∈ l, sel v b.1 = false) ∨ ∃ l1 b l2, l = l1 ++ b :: l2 ∧ (∀ b' ∈ l1, sel v b'.1 = false) ∧ sel v b.1 = true
 | [] => .inl fun _ h => nomatch h
 | b :: l => by
  cases h : sel v b.1 with
  | true => exact .inr ⟨[], b, l, rfl, fun _ h => (nomatch h), h⟩
  | false =>
   rcases sel_split v l with z | ⟨l1, b', l2, e, h1, h2⟩
   · refine .inl fun b' hb => ?_
     rcases List.mem_cons.mp hb with rfl | hb
     · exact h
     · exact z b' hb
   · refine .inr ⟨b :: l1, b', l2, by rw [e]; rfl, fun b2 hb => ?_, h2⟩
     rcases List.mem_cons.mp hb with rfl | hb
     · exact h
     · exact h1 b2 hb
theorem br_turn {v : IB} {i : Int} {b : Br} (hc : ∀ x ∈ b.1, 0 ≤ x) : tb_branch_of_1 v (i, b) () = if sel v b.1 = true then some (.rt (some i)) else some (.nx ()) := by
 unfold tb_branch_of_1
 dsimp only
 exact num_sel hc fun q => if q = true then some (Cf.rt (some i)) else some (Cf.nx ())
theorem branch_none {p : Int} {bs : QTs} {v : IB} (hz : bs.l.length ≤ 2 ^ 20) (hc : ∀ b ∈ bs.l, ∀ x ∈ b.1, 0 ≤ x) (h : ∀ b ∈ bs.l, sel v b.1 = false) : t_branch_of (.ask p bs) v = some none := by
 unfold t_branch_of
 show ((some bs.l).bind _) = _
 rw [Option.bind_some, enuT_ok hz, Option.bind_some, forT_all _ fun q hq => ?_]
 · rfl
 · obtain ⟨i, b⟩ := q
   have hb : b ∈ bs.l := by
    obtain ⟨z, hz, e⟩ := List.mem_map.mp hq
    obtain ⟨z1, z2⟩ := z
    have e2 := congrArg Prod.snd e
    dsimp only at e2
    rw [← e2]
    exact (List.mem_zipIdx' hz).2 ▸ List.getElem_mem _
   rw [br_turn (hc b hb), h b hb, if_neg Bool.false_ne_true]
theorem branch_hit {p : Int} {bs : QTs} {v : IB} {l1 l2 : List Br} {b : Br} (hz : bs.l.length ≤ 2 ^ 20) (hc : ∀ b ∈ bs.l, ∀ x ∈ b.1, 0 ≤ x) (e : bs.l = l1 ++ b :: l2) (h1 : ∀ b' ∈ l1, sel v b'.1 = false) (h2 : sel v b.1 = true) : t_branch_of (.ask p bs) v = some (some ((l1.length : Nat) : Int)) := by
 unfold t_branch_of
 show ((some bs.l).bind _) = _
 have hA : ∀ q ∈ (l1.zipIdx 0).map (fun p => (((p.2 : Nat) : Int), p.1)), tb_branch_of_1 v q () = some (.nx ()) := by
  intro q hq
  obtain ⟨i, b'⟩ := q
  have hb : b' ∈ l1 := by
   obtain ⟨z, hz, e⟩ := List.mem_map.mp hq
   obtain ⟨z1, z2⟩ := z
   have e2 := congrArg Prod.snd e
   dsimp only at e2
   rw [← e2]
   exact (List.mem_zipIdx' hz).2 ▸ List.getElem_mem _
  rw [br_turn (hc b' (by rw [e]; exact List.mem_append_left _ hb)), h1 b' hb, if_neg Bool.false_ne_true]
 have hB : tb_branch_of_1 v (((0 + l1.length : Nat) : Int), b) () = some (.rt (some ((l1.length : Nat) : Int))) := by
  rw [br_turn (hc b (by rw [e]; exact List.mem_append_right _ List.mem_cons_self)), h2, if_pos rfl, Nat.zero_add]
 rw [Option.bind_some, enuT_ok hz, Option.bind_some, e, List.zipIdx_append, List.map_append, List.zipIdx_cons, List.map_cons, forT_hit _ hA hB]
 rfl
theorem way_call {c : List IB} : ∀ (n : Nat) (t : QT) (sides : List (List Int)) (path : List Int), FitsT t sides → (∀ s ∈ sides, SdOk s) → c.length = sides.length → depth t < n → path.length + n ≤ 2 ^ 10 →
  ∃ r : List Int × Option Int, tZway n t c path = some r ∧ r.1.length ≤ path.length + n ∧ (∀ v, r.2 = some v → ∃ P, whT (tw_Tree_DcallD_1 c) (tb_Tree_DcallD_1 c) (t, path.map some) = some (.nx (.fin v, P))) ∧
   (r.2 = none → whT (tw_Tree_DcallD_x_1 c) (tb_Tree_DcallD_x_1 c) (t, path.map some) = some (.rt (r.1.map some)))
 | 0, _, _, _, _, _, _, h, _ => absurd h (Nat.not_lt_zero _)
 | n + 1, .fin v, sides, path, _, _, _, _, hp => by
  refine ⟨(path, some v), ?_, by show path.length ≤ _; omega, fun w hw => ⟨path.map some, ?_⟩, fun h => (nomatch h)⟩
  · show tsZway _ _ _ _ = _
    unfold tsZway
    rw [tag_fin, if_pos rfl]; rfl
  · cases hw
    exact whT_end (by unfold tw_Tree_DcallD_1; dsimp only; rw [tag_fin2])
 | n + 1, .ask p bs, sides, path, hf, hs, hl, hd, hp => by
  cases hf with
  | ask p bs sides side hp' h2 hq hn hsub hr =>
   have hside := hs side (List.mem_of_getElem? hp')
   have hlb := perm_len hq hn
   have hsl := hside.len
   have lt := (List.getElem?_eq_some_iff.mp hp').1
   have hc : ∀ b ∈ bs.l, ∀ x ∈ b.1, 0 ≤ x := fun b hb x hx => hside.pos x ((hsub b hb).subset hx)
   obtain ⟨v, hv⟩ : ∃ v, c[p]? = some v := ⟨_, List.getElem?_eq_getElem (by omega)⟩
   have hat : atI c (p : Int) = some v := by rw [atI_nat]; exact hv
   have way : ∀ k : Nat, ∀ b, bs.l[k]? = some b → tbZway_1 (tZway n) (.ask (p : Int) bs) c path (k : Int) () = if sel v b.1 = true then (tZway n b.2 c (path ++ [(k : Int)])).bind fun r => some (.rt r) else some (.nx ()) := by
    intro k b hb
    have hk : atI bs.l (k : Int) = some b := by rw [atI_nat]; exact hb
    unfold tbZway_1
    dsimp only
    show ((atI c (p : Int)).bind _) = _
    rw [hat, Option.bind_some]
    have e1 : (if (!(ibB v)) = true then (atI c (QT.num (QT.ask (p : Int) bs))).bind fun v4 => (QT.brs (QT.ask (p : Int) bs)).bind fun v5 => (atI v5 (k : Int)).bind fun v6 => some (decide (ibN v4 ∈ v6.1)) else some false) = some (sel v b.1) := by
     unfold sel
     show (if (!(ibB v)) = true then (atI c (p : Int)).bind fun v4 => (some bs.l).bind fun v5 => (atI v5 (k : Int)).bind fun v6 => some (decide (ibN v4 ∈ v6.1)) else some false) = _
     rw [hat, Option.bind_some, Option.bind_some, hk, Option.bind_some]
     cases ibB v <;> rfl
    rw [e1, Option.bind_some]
    show (if sel v b.1 = true then (some bs.l).bind _ else _) = _
    rw [Option.bind_some, hk, Option.bind_some, gz_ok (by show path.length + 1 ≤ _; omega), Option.bind_some]
   have er : rngT (((bs.l.length : Nat) : Int)) = some (rngI 0 bs.l.length) := rngT_ok (n := bs.l.length) (by omega)
   have un : tZway (n + 1) (.ask (p : Int) bs) c path = (forT (tbZway_1 (tZway n) (.ask (p : Int) bs) c path) (rngI 0 bs.l.length) ()).bind fun v12 => v12.k (fun env => some (path, (none : Option Int))) (fun r => some r) := by
    show tsZway _ _ _ _ = _
    unfold tsZway
    rw [tag_ask, if_neg Bool.false_ne_true]
    show ((some bs.l).bind _) = _
    rw [Option.bind_some, er, Option.bind_some]
   rcases sel_split v bs.l with h | ⟨l1, b, l2, e, h1, h3⟩
   · refine ⟨(path, none), ?_, by show path.length ≤ _; omega, fun w hw => (nomatch hw), fun _ => ?_⟩
     · rw [un, forT_all _ fun k hk => ?_]
       · rfl
       · obtain ⟨k0, k1⟩ := mem_rngI.mp hk
         obtain ⟨i, rfl⟩ : ∃ i : Nat, k = (i : Int) := ⟨k.toNat, by omega⟩
         have hi : i < bs.l.length := by omega
         rw [way i _ (List.getElem?_eq_getElem hi), h _ (List.getElem_mem hi), if_neg Bool.false_ne_true]
     · refine whT_rt (by unfold tw_Tree_DcallD_x_1; dsimp only; rw [tag_ask2]) ?_
       unfold tb_Tree_DcallD_x_1
       dsimp only
       show ((atI c (p : Int)).bind _) = _
       rw [hat, Option.bind_some, branch_none (by omega) hc h, Option.bind_some]
       rfl
   · have hb : b ∈ bs.l := by rw [e]; exact List.mem_append_right _ List.mem_cons_self
     have hdb := depth_ask (p := (p : Int)) hb
     have hk : bs.l[l1.length]? = some b := by rw [e, List.getElem?_append_right (Nat.le_refl _), Nat.sub_self]; rfl
     have hat2 : atI bs.l ((l1.length : Nat) : Int) = some b := by rw [atI_nat]; exact hk
     obtain ⟨r, r1, r2, r3, r4⟩ := way_call (c := c) n b.2 (sides.set p b.1) (path ++ [((l1.length : Nat) : Int)]) (hr b hb) (sides_set hs (hside.sub (hsub b hb))) (by rw [List.length_set]; exact hl) (by omega) (by rw [List.length_append]; show _ + 1 + _ ≤ _; omega)
     have hgz : ((path.map some ++ [some ((l1.length : Nat) : Int)]) : List (Option Int)).length ≤ 2 ^ 20 := by rw [List.length_append, List.length_map]; show _ + 1 ≤ _; omega
     have emap : (path ++ [((l1.length : Nat) : Int)]).map some = path.map some ++ [some ((l1.length : Nat) : Int)] := by rw [List.map_append]; rfl
     refine ⟨r, ?_, by rw [List.length_append] at r2; have : ([((l1.length : Nat) : Int)] : List Int).length = 1 := rfl; omega, fun w hw => ?_, fun hw => ?_⟩
     · have elen : bs.l.length = l1.length + (1 + l2.length) := by rw [e, List.length_append, List.length_cons]; omega
       have es : rngI 0 bs.l.length = rngI 0 l1.length ++ ((l1.length : Nat) : Int) :: rngI (((l1.length : Nat) : Int) + 1) l2.length := by
        rw [elen, ← rngI_app 0 l1.length (1 + l2.length), ← rngI_app (0 + ((l1.length : Nat) : Int)) 1 l2.length, rngI_one, Int.zero_add]
        rfl
       have hA : ∀ k ∈ rngI 0 l1.length, tbZway_1 (tZway n) (.ask (p : Int) bs) c path k () = some (.nx ()) := by
        intro k hk2
        obtain ⟨k0, k1⟩ := mem_rngI.mp hk2
        obtain ⟨i, rfl⟩ : ∃ i : Nat, k = (i : Int) := ⟨k.toNat, by omega⟩
        have hi : i < l1.length := by omega
        have hg : bs.l[i]? = some l1[i] := by rw [e, List.getElem?_append_left hi]; exact List.getElem?_eq_getElem hi
        rw [way i _ hg, h1 _ (List.getElem_mem hi), if_neg Bool.false_ne_true]
       have hB : tbZway_1 (tZway n) (.ask (p : Int) bs) c path ((l1.length : Nat) : Int) () = some (.rt r) := by
        rw [way _ b hk, h3, if_pos rfl, r1]; rfl
       rw [un, es, forT_hit _ hA hB]
       rfl
     · obtain ⟨P, hP⟩ := r3 w hw
       refine ⟨P, ?_⟩
       rw [whT_nx (e' := (b.2, (path ++ [((l1.length : Nat) : Int)]).map some)) (by unfold tw_Tree_DcallD_1; dsimp only; rw [tag_ask2]) ?_, hP]
       unfold tb_Tree_DcallD_1
       dsimp only
       show ((atI c (p : Int)).bind _) = _
       rw [hat, Option.bind_some, branch_hit (by omega) hc e h1 h3, Option.bind_some, if_neg (by simp)]
       show ((some bs.l).bind _) = _
       rw [Option.bind_some, Option.bind_some, hat2, Option.bind_some, gz_ok hgz, emap]
       rfl
     · rw [whT_nx (e' := (b.2, (path ++ [((l1.length : Nat) : Int)]).map some)) (by unfold tw_Tree_DcallD_x_1; dsimp only; rw [tag_ask2]) ?_, r4 hw]
       unfold tb_Tree_DcallD_x_1
       dsimp only
       show ((atI c (p : Int)).bind _) = _
       rw [hat, Option.bind_some, branch_hit (by omega) hc e h1 h3, Option.bind_some, if_neg (by simp)]
       show ((some bs.l).bind _) = _
       rw [Option.bind_some, Option.bind_some, hat2, Option.bind_some, gz_ok hgz, emap]
       rfl
theorem same_ints {l : List Int} (h : l.length ≤ 2 ^ 16) : tZsame (D.tup (List.map D.int l)) (D.tup (List.map D.int l)) = some true := same_self (plain_ints (n := 38) h)
theorem law_true (ns : List Int) : t_law ns = some true := by
 have c0 := cell_eq ns 0
 have c1 := cell_eq ns 1
 have c2 := cell_eq ns 2
 refine OkP.eq (P := fun b => b = true) ?_ fun b hb => hb
 unfold t_law
 rw [show (0 : Int) = ((0 : Nat) : Int) from rfl, show (1 : Int) = ((1 : Nat) : Int) from rfl, show (2 : Int) = ((2 : Nat) : Int) from rfl, c0, Option.bind_some]
 refine OkP.bind (source_is _) fun shape hshape => ?_
 try dsimp only
 rw [c2, Option.bind_some]
 refine OkP.bind (source_is _) fun src hsrc => ?_
 refine OkP.bind (sizes_ok hshape (st := 6) (cap := 24) (by decide) (by decide)) fun q hq => ?_
 obtain ⟨hsh, hz⟩ := hq
 have hne := full_ne hz.pos
 have hlf : (fullS q.1).length = q.1.length := List.length_map _
 have h7 := hz.n7
 have h1 := hz.n1
 have hcap : vol (fullS q.1) ≤ 24 := hz.cap
 have hms : meas (fullS q.1) < 9 := by
  have := meas_full hz.pos hcap
  have := gd_8 (vol (fullS q.1))
  omega
 have hso := sides_full hz.pos
 try dsimp only
 rw [full_eq hz.pos, Option.bind_some, c1, Option.bind_some]
 refine OkP.bind (source_is _) fun s1 hs1 => ?_
 refine OkP.bind (tree_ok 9 (fullS q.1) s1 [] hs1 hms hne (by omega) (by show 0 + _ ≤ _; omega)) fun T hT => ?_
 obtain ⟨hT1, hT2, hT3, k1, hk1, hk1', hk2, hk3⟩ := hT
 have lv : ∀ x ∈ leaves T.1, 0 ≤ x := fun x hx => by rw [hk3] at hx; exact (mem_rngI.mp hx).1
 rw [tree_t hT2 hso hT3 lv, Option.bind_some]
 have er : rngT (12 : Int) = some (rngI 0 12) := rngT_ok (n := 12) (by decide)
 rw [er, Option.bind_some]
 refine OkP.kNx (P := fun e => True) ?_ fun e _ => ?_
 · refine OkP.mono (OkP.forI (fun (e : List Int) => isSrc e) (rngI 0 12) src hsrc fun turn _ source hs => ?_) fun o ho => ?_
   · unfold tb_law_2
     dsimp only
     refine OkP.bind (Q := fun (e : List Int × List IB) => isSrc e.1 ∧ e.2.length = q.1.length) ?_ fun e he => ?_
     · refine OkP.mono (OkP.fold (fun (pre : List Int) (e : List Int × List IB) => isSrc e.1 ∧ e.2.length = pre.length) [] q.1 (source, []) ⟨hs, rfl⟩ fun pre size post e eq he => ?_) fun e he => ?_
       · obtain ⟨sr, combo⟩ := e
         obtain ⟨hsr, hcl⟩ := he
         dsimp only at hsr hcl
         have hsz := hz.pos size (by rw [List.nil_append] at eq; rw [eq]; exact List.mem_append_right _ List.mem_cons_self)
         have hpl : pre.length ≤ q.1.length := by
          have := congrArg List.length eq
          rw [List.nil_append, List.length_append] at this; omega
         unfold tb_law_1
         dsimp only
         refine OkP.bind (draw_is hsr (n := size) (by omega)) fun d hd => ?_
         refine OkP.bind (Q := fun (w : List Int × IB) => isSrc w.1) ?_ fun w hw => ?_
         · refine OkP.bind (draw_is hd.1 (n := 4) (by decide)) fun d2 hd2 => ?_
           refine OkP.iteB (fun _ => ?_) fun _ => OkP.ret hd2.1
           refine OkP.bind (draw_is hd2.1 (n := (1000000000 : Int) - 9) (by decide)) fun d3 hd3 => ?_
           refine OkP.bind (draw_is hd3.1 (n := 4) (by decide)) fun d4 hd4 => ?_
           refine OkP.at hd4.2.1 (by show d4.1 < 4; exact hd4.2.2) fun x hx => ?_
           exact OkP.ret hd4.1
         · refine OkP.gz (by show combo.length + 1 ≤ _; omega) ?_
           exact OkP.ret ⟨hw, by rw [List.length_append, List.length_append, hcl]; rfl⟩
       · rw [List.nil_append] at he; exact he
     obtain ⟨sr, combo⟩ := e
     obtain ⟨hsr, hcl⟩ := he
     dsimp only at hsr hcl ⊢
     obtain ⟨r, r1, r2, r3, r4⟩ := way_call (c := combo) 9 T.1 (fullS q.1) [] hT2 hso (by omega) hT3 (by decide)
     have r2' : r.1.length ≤ 0 + 9 := r2
     rw [r1, Option.bind_some]
     obtain ⟨P, o⟩ := r
     cases o with
     | none =>
      dsimp only at r4 r2' ⊢
      rw [if_pos (show (none : Option Int).isNone = true from rfl)]
      have ex : t_Tree_DcallD_x (treeOf T.1) combo = some (P.map some) := by
       unfold t_Tree_DcallD_x
       dsimp only
       have h := r4 rfl
       rw [List.map_nil] at h
       rw [show (treeOf T.1).rows = T.1 from rfl, h]; rfl
      have er2 : tZrefused (treeOf T.1) combo P = some true := by
       unfold tZrefused
       have em : List.map (fun x => eO D.int x) (P.map some) = List.map D.int P := by rw [List.map_map]; rfl
       rw [ex, Option.bind_some, em, same_ints (by omega)]; rfl
      rw [er2, Option.bind_some, if_neg (by decide)]
      exact OkP.ret ⟨_, rfl, hsr⟩
     | some v =>
      dsimp only at r3 ⊢
      rw [if_neg (show ¬ (some v : Option Int).isNone = true from Bool.false_ne_true)]
      obtain ⟨P2, hP2⟩ := r3 v rfl
      have ex : t_Tree_DcallD (treeOf T.1) combo = some v := by
       unfold t_Tree_DcallD
       dsimp only
       rw [List.map_nil] at hP2
       rw [show (treeOf T.1).rows = T.1 from rfl, hP2]; rfl
      rw [ex, Option.bind_some, show tZsame (D.int v) (eO D.int (some v)) = some true from same_self rfl, Option.bind_some, if_neg (by decide)]
      exact OkP.ret ⟨_, rfl, hsr⟩
   · obtain ⟨e', rfl, _⟩ := ho
     exact ⟨e', rfl, trivial⟩
 · have st : tZsame (e_tree (treeOf T.1).rows) (e_tree T.1) = some true := same_tree hT2 hso hT3
   rw [st]
   exact OkP.ret rfl
end My
namespace My
open PySem L2 Dl
section
variable {P : Program} {w : World} {K : PySem.W.Frag} {mg : Str → Option Value} {base : Heap} {f : Addr} {k : Nat}
theorem scZcell : FnScope NZcell ["_law_script", "_law_k"] (defScope sZcell) := ⟨rfl, rfl, rfl, by decide +kernel, rfl, by decide +kernel, by decide +kernel⟩
theorem bZcell (h_len : mg "len" = none) : Body P w K mg base NZcell "_law_cell" (defScope sZcell) f (defBody sZcell) 2 (k + 1) (fZcell) := fun cdv A outer s H E hr => by
 have go : Go (cxOf (L2N.CX P w) P w K mg base NZcell "_law_cell" (defScope sZcell) f cdv A outer s H E) (WB E) := go_def (CX := L2N.CX P w) scZcell.nd hr
 have hu := go.rm
 exact (dl_cons (ds_if (dt_lt (de_v 1) (de_len h_len (da_cons (de_v 0) da_nil))) (dl_one (ds_rtA [0, 1] (ds_ret (de_ix (de_v 0) (de_v 1))))) dl_nil)
 (dl_one (ds_rtA [0, 1] (ds_ret de_int))))
theorem scZsource : FnScope NZsource ["_law_cell_here"] (defScope sZsource) := ⟨rfl, rfl, rfl, by decide +kernel, rfl, by decide +kernel, by decide +kernel⟩
theorem bZsource  : Body P w K mg base NZsource "_law_source" (defScope sZsource) f (defBody sZsource) 1 (k + 1) (fZsource) := fun cdv A outer s H E hr => by
 have go : Go (cxOf (L2N.CX P w) P w K mg base NZsource "_law_source" (defScope sZsource) f cdv A outer s H E) (WB E) := go_def (CX := L2N.CX P w) scZsource.nd hr
 have hu := go.rm
 exact (dl_cons (ds_if (dt_ge (de_v 0) (de_pow de_int de_int)) (dl_one (ds_rtA [0] (ds_ret (de_lst (da_cons (de_v 0) (da_cons de_int (da_cons (de_v 0) da_nil))))))) dl_nil)
 (dl_one (ds_rtA [0] (ds_ret (de_lst (da_cons de_int (da_cons de_int (da_cons (de_v 0) da_nil))))))))
theorem scZdraw : FnScope NZdraw ["_law_source_here", "_law_limit"] (defScope sZdraw) := ⟨rfl, rfl, rfl, by decide +kernel, rfl, by decide +kernel, by decide +kernel⟩
theorem bZdraw (h_int : mg "int" = none) : Body P w K mg base NZdraw "_law_draw" (defScope sZdraw) f (defBody sZdraw) 2 (k + 1) (fZdraw) := fun cdv A outer s H E hr => by
 have go : Go (cxOf (L2N.CX P w) P w K mg base NZdraw "_law_draw" (defScope sZdraw) f cdv A outer s H E) (WB E) := go_def (CX := L2N.CX P w) scZdraw.nd hr
 have hu := go.rm
 exact (dl_cons (ds_setIx (de_add (de_ix (de_v 0) de_int) de_int) (de_v 0) de_int)
 (dl_cons (ds_if (dt_gt (de_ix (de_v 0) de_int) de_int) (dl_cons (ds_set 3 go.nd (de_mod (de_int1 h_int (da_cons (de_ix (de_v 0) de_int) da_nil)) (de_v 1)))
 (dl_cons (ds_setIx (de_div (de_ix (de_v 0) de_int) (de_v 1)) (de_v 0) de_int)
 (dl_one (ds_rtA [1, 2, 3] (ds_ret (de_v 3)))))) dl_nil)
 (dl_cons (ds_set 2 go.nd (de_mod (de_int1 h_int (da_cons (de_add (de_mul (de_ix (de_v 0) de_int) de_int) (de_mul (de_ix (de_v 0) de_int) de_int)) da_nil)) de_int))
 (dl_cons (ds_set 2 go.nd (de_mod (de_int1 h_int (da_cons (de_add (de_add (de_mul (de_v 2) (de_v 2)) (de_mul (de_ix (de_v 0) de_int) de_int)) de_int) da_nil)) de_int))
 (dl_one (ds_rtA [1, 2, 3] (ds_ret (de_mod (de_int1 h_int (da_cons (de_add (de_div (de_v 2) de_int) (de_mul (de_v 2) de_int)) da_nil)) (de_v 1)))))))))
theorem scZsizes : FnScope NZsizes ["_law_source_here", "_law_parties", "_law_standings", "_law_cap"] (defScope sZsizes) := ⟨rfl, rfl, rfl, by decide +kernel, rfl, by decide +kernel, by decide +kernel⟩
theorem bZsizes {FZdraw : Fn} (h_int : mg "int" = none) (hZdraw : DF P w K mg base "_law_draw" k 2 FZdraw) (h_min : mg "min" = none) (h_range : mg "range" = none) (h_len : mg "len" = none) : Body P w K mg base NZsizes "_law_sizes" (defScope sZsizes) f (defBody sZsizes) 4 (k + 1) (fZsizes FZdraw) := fun cdv A outer s H E hr => by
 have go : Go (cxOf (L2N.CX P w) P w K mg base NZsizes "_law_sizes" (defScope sZsizes) f cdv A outer s H E) (WB E) := go_def (CX := L2N.CX P w) scZsizes.nd hr
 have hu := go.rm
 exact (dl_cons (ds_set 4 go.nd (de_min2 go h_min (da_cons (de_int1 h_int (da_cons (de_v 2) da_nil)) (da_cons (de_ix (de_lst (da_cons de_int (da_cons de_int (da_cons de_int (da_cons de_int da_nil))))) (de_call [true, false] go hZdraw (hr.mono (by omega)) rfl (da_cons (de_v 0) (da_cons de_int da_nil)))) da_nil))))
 (dl_cons (ds_set 5 go.nd (de_lst da_nil))
 (dl_cons (ds_set 6 go.nd de_int)
 (dl_cons (ds_for go (di_rng1 rfl h_range (da_cons (de_add de_int (de_call [true, false] go hZdraw (hr.mono (by omega)) rfl (da_cons (de_v 0) (da_cons (de_v 1) da_nil)))) da_nil)) (dg_name 7 go.nd) (dl_aft [(7, true), (9, true)] (dl_cons (ds_set 9 go.nd (de_add de_int (de_call [true, false] go hZdraw (hr.mono (by omega)) rfl (da_cons (de_v 0) (da_cons (de_v 4) da_nil)))))
 (dl_cons (ds_if (dt_gt (de_mul (de_v 6) (de_v 9)) (de_v 3)) (dl_one (ds_set 9 go.nd de_int)) dl_nil)
 (dl_cons (ds_set 6 go.nd (de_mul (de_v 6) (de_v 9)))
 (dl_one (ds_expr (de_append (de_v 5) (de_v 9)))))))))
 (dl_cons (ds_set 8 go.nd (de_call [true, false] go hZdraw (hr.mono (by omega)) rfl (da_cons (de_v 0) (da_cons (de_len h_len (da_cons (de_v 5) da_nil)) da_nil))))
 (dl_one (ds_rtA [1, 2, 3, 4, 5, 6, 7, 8, 9] (ds_ret (de_add (de_sl (de_v 5) (do_some (de_v 8)) do_no) (de_sl (de_v 5) do_no (do_some (de_v 8))))))))))))
theorem scZfull : FnScope NZfull ["_law_sizes_here"] (defScope sZfull) := ⟨rfl, rfl, rfl, by decide +kernel, rfl, by decide +kernel, by decide +kernel⟩
theorem bZfull (h_list : mg "list" = none) (h_range : mg "range" = none) : Body P w K mg base NZfull "_law_full" (defScope sZfull) f (defBody sZfull) 1 (k + 1) (fZfull) := fun cdv A outer s H E hr => by
 have go : Go (cxOf (L2N.CX P w) P w K mg base NZfull "_law_full" (defScope sZfull) f cdv A outer s H E) (WB E) := go_def (CX := L2N.CX P w) scZfull.nd hr
 have hu := go.rm
 exact (dl_one (ds_rtA [0, 1] (ds_ret (de_lc (g := (gN 1)) (tt := tYes') (te := (eLRg (eVar 1))) [("_law_size", 1)] go (di_seq (de_v 0)) (show BlkOk NZfull (defScope sZfull) _ _ from ⟨rfl, by decide +kernel, by decide +kernel, by decide +kernel, by decide +kernel⟩) (fun _ _ _ _ _ => (dg_name 1 go.blk.nd)) (fun _ _ _ _ _ => dts_nil) (fun _ _ _ _ _ => (de_lrg go.blk (hm := h_list) (hm2 := h_range) (ha := (de_v 1))))))))
theorem scZsplit : FnScope NZsplit ["_law_side", "_law_source_here"] (defScope sZsplit) := ⟨rfl, rfl, rfl, by decide +kernel, rfl, by decide +kernel, by decide +kernel⟩
theorem bZsplit {FZdraw : Fn} (hZdraw : DF P w K mg base "_law_draw" k 2 FZdraw) (h_len : mg "len" = none) (h_range : mg "range" = none) : Body P w K mg base NZsplit "_law_split" (defScope sZsplit) f (defBody sZsplit) 2 (k + 1) (fZsplit FZdraw) := fun cdv A outer s H E hr => by
 have go : Go (cxOf (L2N.CX P w) P w K mg base NZsplit "_law_split" (defScope sZsplit) f cdv A outer s H E) (WB E) := go_def (CX := L2N.CX P w) scZsplit.nd hr
 have hu := go.rm
 exact (dl_cons (ds_set 2 go.nd (de_lc (g := (gN 7)) (tt := tYes') (te := (eCall [true, false] FZdraw (aCons (eVar 1) (aCons (eC (.int 3)) aNil)))) [("_law_standing", 7)] go (di_seq (de_v 0)) (show BlkOk NZsplit (defScope sZsplit) _ _ from ⟨rfl, by decide +kernel, by decide +kernel, by decide +kernel, by decide +kernel⟩) (fun _ _ _ _ _ => (dg_name 7 go.blk.nd)) (fun _ _ _ _ _ => dts_nil) (fun _ _ _ _ _ => (de_call [true, false] go.blk hZdraw (hr.mono (by omega)) rfl (da_cons (de_v 1) (da_cons de_int da_nil))))))
 (dl_cons (ds_if (dt_lent (dt_eq hu (de_len h_len (da_cons (de_lc (g := (gN 4)) (tt := (tCmp (eEq (eVar 4) (eIx (eVar 2) (eC (.int 0)))))) (te := (eVar 4)) [("_law_mark", 4)] go (di_seq (de_v 2)) (show BlkOk NZsplit (defScope sZsplit) _ _ from ⟨rfl, by decide +kernel, by decide +kernel, by decide +kernel, by decide +kernel⟩) (fun _ _ _ _ _ => (dg_name 4 go.blk.nd)) (fun _ _ _ _ _ => (dts_one (dt_eq hu (de_v 4) (de_ix (de_v 2) de_int)))) (fun _ _ _ _ _ => (de_v 4))) da_nil)) (de_len h_len (da_cons (de_v 2) da_nil)))) (dl_aft [(5, true)] (dl_cons (ds_set 5 go.nd (de_call [true, false] go hZdraw (hr.mono (by omega)) rfl (da_cons (de_v 1) (da_cons (de_len h_len (da_cons (de_v 2) da_nil)) da_nil))))
 (dl_one (ds_setIx (de_add (de_ix (de_v 2) (de_v 5)) de_int) (de_v 2) (de_v 5))))) dl_nil)
 (dl_cons (ds_set 3 go.nd (de_lst da_nil))
 (dl_cons (ds_for go (di_rng1 rfl h_range (da_cons de_int da_nil)) (dg_name 4 go.nd) (dl_aft [(4, true), (6, true)] (dl_cons (ds_fz 6 (ds_setLc (g := (gN 8)) (tt := (tCmp (eEq (eIx (eVar 2) (eVar 8)) (eVar 4)))) (te := (eIx (eVar 0) (eVar 8))) 6 [("_law_k", 8)] rfl rfl rfl rfl rfl go (di_rng1 rfl h_range (da_cons (de_len h_len (da_cons (de_v 0) da_nil)) da_nil)) (show BlkOk NZsplit (defScope sZsplit) _ _ from ⟨rfl, by decide +kernel, by decide +kernel, by decide +kernel, by decide +kernel⟩) (fun _ _ _ _ _ => (dg_name 8 go.blk.nd)) (fun _ _ _ _ _ => (dts_one (dt_eq hu (de_ix (de_v 2) (de_v 8)) (de_v 4)))) (fun _ _ _ _ _ => (de_ix (de_v 0) (de_v 8)))))
 (dl_one (ds_if (dt_ne hu (de_v 6) (de_lst da_nil)) (dl_one (ds_expr (de_append (de_v 3) (de_v 6)))) dl_nil)))))
 (dl_one (ds_rtA [0, 2, 3, 4, 5, 6, 7, 8] (ds_ret (de_v 3))))))))
theorem scZtree : FnScope NZtree ["_law_sides", "_law_source_here", "_law_ends"] (defScope sZtree) := ⟨rfl, rfl, rfl, by decide +kernel, rfl, by decide +kernel, by decide +kernel⟩
theorem bZtree {FZdraw FZsplit FZtree : Fn} (h_len : mg "len" = none) (h_range : mg "range" = none) (hZdraw : DF P w K mg base "_law_draw" k 2 FZdraw) (hZsplit : DF P w K mg base "_law_split" k 2 FZsplit) (hZtree : DF P w K mg base "_law_tree" k 3 FZtree) (h_tuple : mg "tuple" = none) : Body P w K mg base NZtree "_law_tree" (defScope sZtree) f (defBody sZtree) 3 (k + 1) (fZtree FZdraw FZsplit FZtree) := fun cdv A outer s H E hr => by
 have go : Go (cxOf (L2N.CX P w) P w K mg base NZtree "_law_tree" (defScope sZtree) f cdv A outer s H E) (WB E) := go_def (CX := L2N.CX P w) scZtree.nd hr
 have hu := go.rm
 exact (dl_cons (ds_fz 3 (ds_setLc (g := (gN 8)) (tt := (tCmp (eGt (eB gLen (aCons (eIx (eVar 0) (eVar 8)) aNil)) (eC (.int 1))))) (te := (eVar 8)) 3 [("_law_p", 8)] rfl rfl rfl rfl rfl go (di_rng1 rfl h_range (da_cons (de_len h_len (da_cons (de_v 0) da_nil)) da_nil)) (show BlkOk NZtree (defScope sZtree) _ _ from ⟨rfl, by decide +kernel, by decide +kernel, by decide +kernel, by decide +kernel⟩) (fun _ _ _ _ _ => (dg_name 8 go.blk.nd)) (fun _ _ _ _ _ => (dts_one (dt_gt (de_len h_len (da_cons (de_ix (de_v 0) (de_v 8)) da_nil)) de_int))) (fun _ _ _ _ _ => (de_v 8))))
 (dl_cons (ds_if ((dw_or (dt_eq hu (de_v 3) (de_lst da_nil)) (dw_or1 (dt_eq hu (de_call [true, false] go hZdraw (hr.mono (by omega)) rfl (da_cons (de_v 1) (da_cons de_int da_nil))) de_int)))).t (dl_cons (ds_expr (de_append (de_v 2) (de_len h_len (da_cons (de_v 2) da_nil))))
 (dl_one (ds_rtA [0, 3, 4, 5, 6, 7, 8] (ds_ret (de_tup (da_cons de_str (da_cons (de_sub (de_len h_len (da_cons (de_v 2) da_nil)) de_int) da_nil))))))) dl_nil)
 (dl_cons (ds_set 4 go.nd (de_ix (de_v 3) (de_call [true, false] go hZdraw (hr.mono (by omega)) rfl (da_cons (de_v 1) (da_cons (de_len h_len (da_cons (de_v 3) da_nil)) da_nil)))))
 (dl_cons (ds_set 5 go.nd (de_lst da_nil))
 (dl_cons (ds_for go (di_seq (de_call [false, true] go hZsplit (hr.mono (by omega)) rfl (da_cons (de_ix (de_v 0) (de_v 4)) (da_cons (de_v 1) da_nil)))) (dg_name 6 go.nd) (dl_aft [(6, true), (7, true)] (dl_cons (ds_set 7 go.nd (de_call [false, true, true] go hZtree (hr.mono (by omega)) rfl (da_cons (de_add (de_add (de_sl (de_v 0) do_no (do_some (de_v 4))) (de_lst (da_cons (de_v 6) da_nil))) (de_sl (de_v 0) (do_some (de_add (de_v 4) de_int)) do_no)) (da_cons (de_v 1) (da_cons (de_v 2) da_nil)))))
 (dl_one (ds_expr (de_append (de_v 5) (de_tup (da_cons (de_tuple h_tuple (da_cons (de_v 6) da_nil)) (da_cons (de_v 7) da_nil)))))))))
 (dl_one (ds_rtA [0, 3, 4, 5, 6, 7, 8] (ds_ret (de_tup (da_cons de_str (da_cons (de_v 4) (da_cons (de_tuple h_tuple (da_cons (de_v 5) da_nil)) da_nil))))))))))))
theorem sc_is_integer : FnScope N_is_integer ["value"] (defScope s_is_integer) := ⟨rfl, rfl, rfl, by decide +kernel, rfl, by decide +kernel, by decide +kernel⟩
theorem b_is_integer (h_int : mg "int" = none) (h_isinstance : mg "isinstance" = none) (h_bool : mg "bool" = none) : Body P w K mg base N_is_integer "is_integer" (defScope s_is_integer) f (defBody s_is_integer) 1 (k + 1) (f_is_integer) := fun cdv A outer s H E hr => by
 have go : Go (cxOf (L2N.CX P w) P w K mg base N_is_integer "is_integer" (defScope s_is_integer) f cdv A outer s H E) (WB E) := go_def (CX := L2N.CX P w) sc_is_integer.nd hr
 have hu := go.rm
 exact (dl_one (ds_rtA [0] (ds_ret (de_and (de_isi h_isinstance (da_cons (de_v 0) (da_cons (de_tyN h_int PyProof.Rows.boot_int) da_nil))) (de_one (de_not (de_isi h_isinstance (da_cons (de_v 0) (da_cons (de_tyN h_bool PyProof.Rows.boot_bool) da_nil)))))))))
theorem sc_is_number : FnScope N_is_number ["value"] (defScope s_is_number) := ⟨rfl, rfl, rfl, by decide +kernel, rfl, by decide +kernel, by decide +kernel⟩
theorem b_is_number {F_is_integer : Fn} (h_is_integer : DF P w K mg base "is_integer" k 1 F_is_integer) : Body P w K mg base N_is_number "is_number" (defScope s_is_number) f (defBody s_is_number) 1 (k + 1) (f_is_number F_is_integer) := fun cdv A outer s H E hr => by
 have go : Go (cxOf (L2N.CX P w) P w K mg base N_is_number "is_number" (defScope s_is_number) f cdv A outer s H E) (WB E) := go_def (CX := L2N.CX P w) sc_is_number.nd hr
 have hu := go.rm
 exact (dl_one (ds_rtA [0] (ds_ret (de_and (de_call [false] go h_is_integer (hr.mono (by omega)) rfl (da_cons (de_v 0) da_nil)) (de_one (de_ge (de_v 0) de_int))))))
theorem sc_ascending : FnScope N_ascending ["numbers"] (defScope s_ascending) := ⟨rfl, rfl, rfl, by decide +kernel, rfl, by decide +kernel, by decide +kernel⟩
theorem b_ascending (h_int : mg "int" = none) (h_sorted : mg "sorted" = none) (h_tuple : mg "tuple" = none) : Body P w K mg base N_ascending "ascending" (defScope s_ascending) f (defBody s_ascending) 1 (k + 1) (f_ascending) := fun cdv A outer s H E hr => by
 have go : Go (cxOf (L2N.CX P w) P w K mg base N_ascending "ascending" (defScope s_ascending) f cdv A outer s H E) (WB E) := go_def (CX := L2N.CX P w) sc_ascending.nd hr
 have hu := go.rm
 exact (dl_cons (ds_set 1 go.nd (de_lst da_nil))
 (dl_cons (ds_for go (di_seq (de_sorted h_sorted (da_cons (de_lc (g := (gN 2)) (tt := tYes') (te := (eB gInt (aCons (eVar 2) aNil))) [("number", 2)] go (di_seq (de_v 0)) (show BlkOk N_ascending (defScope s_ascending) _ _ from ⟨rfl, by decide +kernel, by decide +kernel, by decide +kernel, by decide +kernel⟩) (fun _ _ _ _ _ => (dg_name 2 go.blk.nd)) (fun _ _ _ _ _ => dts_nil) (fun _ _ _ _ _ => (de_int1 h_int (da_cons (de_v 2) da_nil)))) da_nil))) (dg_name 2 go.nd) (dl_aft [(2, true)] (dl_one (ds_if ((dw_or (dt_not (dt_val (de_v 1))) (dw_or1 (dt_ne hu (de_ix (de_v 1) (de_neg de_int)) (de_v 2))))).t (dl_one (ds_expr (de_append (de_v 1) (de_v 2)))) dl_nil))))
 (dl_one (ds_rtA [0, 1, 2] (ds_ret (de_tuple h_tuple (da_cons (de_v 1) da_nil)))))))
theorem sc_checked_cells : FnScope N_checked_cells ["branches", "path"] (defScope s_checked_cells) := ⟨rfl, rfl, rfl, by decide +kernel, rfl, by decide +kernel, by decide +kernel⟩
theorem b_checked_cells {F_is_number F_ascending : Fn} (h_is_number : DF P w K mg base "is_number" k 1 F_is_number) (h_ascending : DF P w K mg base "ascending" k 1 F_ascending) : Body P w K mg base N_checked_cells "checked_cells" (defScope s_checked_cells) f (defBody s_checked_cells) 2 (k + 1) (f_checked_cells F_is_number F_ascending) := fun cdv A outer s H E hr => by
 have go : Go (cxOf (L2N.CX P w) P w K mg base N_checked_cells "checked_cells" (defScope s_checked_cells) f cdv A outer s H E) (WB E) := go_def (CX := L2N.CX P w) sc_checked_cells.nd hr
 have hu := go.rm
 exact (dl_cons (ds_set 2 go.nd (de_lst da_nil))
 (dl_cons (ds_set 3 go.nd (de_lst da_nil))
 (dl_cons (ds_for go (di_seq (de_v 0)) (dg_name 4 go.nd) (dl_aft [(4, true), (6, true), (7, true), (8, true), (9, true), (10, true)] (dl_cons (ds_match (de_v 4) (dcs_cons (is := [9, 10, 7]) go.nd (dpat_seq go.calm (dpats_cons (dpat_starseq go.calm (dpats_cons dpat_cap (dpats_star dpats_nil))) (dpats_cons dpat_cap dpats_nil))) (.cons rfl (by first | exact Or.inl rfl | exact Or.inr rfl) (by first | exact .inl rfl | exact .inr rfl) (.cons rfl (by first | exact Or.inl rfl | exact Or.inr rfl) (by first | exact .inl rfl | exact .inr rfl) (.cons rfl (by first | exact Or.inl rfl | exact Or.inr rfl) (by first | exact .inl rfl | exact .inr rfl) .nil))) (dl_one (ds_set 8 go.nd (de_lst (da_cons (de_v 9) (da_star (de_v 10) da_nil))))) (dcs_cons (is := [6]) go.nd dpat_cap (.cons rfl (by first | exact Or.inl rfl | exact Or.inr rfl) (by first | exact .inl rfl | exact .inr rfl) .nil) dl_never dcs_nil)))
 (dl_cons (ds_for go (di_seq (de_v 8)) (dg_name 5 go.nd) (dl_aft [(5, true)] (dl_cons (ds_if ((dw_or (dt_not (dt_val (de_call [false] go h_is_number (hr.mono (by omega)) rfl (da_cons (de_v 5) da_nil)))) (dw_or1 (dt_in hu (de_v 5) (de_v 2))))).t dl_never dl_nil)
 (dl_one (ds_expr (de_append (de_v 2) (de_v 5)))))))
 (dl_one (ds_expr (de_append (de_v 3) (de_call [false] go h_ascending (hr.mono (by omega)) rfl (da_cons (de_v 8) da_nil)))))))))
 (dl_one (ds_ret (de_v 3))))))
theorem sc_checked : FnScope N_checked ["rows", "path"] (defScope s_checked) := ⟨rfl, rfl, rfl, by decide +kernel, rfl, by decide +kernel, by decide +kernel⟩
theorem b_checked {F_checked_cells F_checked : Fn} (h_int : mg "int" = none) (h_isinstance : mg "isinstance" = none) (h_bool : mg "bool" = none) (h_checked_cells : DF P w K mg base "checked_cells" k 2 F_checked_cells) (h_enumerate : mg "enumerate" = none) (h_checked : DF P w K mg base "checked" k 2 F_checked) (h_tuple : mg "tuple" = none) : Body P w K mg base N_checked "checked" (defScope s_checked) f (defBody s_checked) 2 (k + 1) (f_checked F_checked_cells F_checked) := fun cdv A outer s H E hr => by
 have go : Go (cxOf (L2N.CX P w) P w K mg base N_checked "checked" (defScope s_checked) f cdv A outer s H E) (WB E) := go_def (CX := L2N.CX P w) sc_checked.nd hr
 have hu := go.rm
 exact (dl_cons (ds_match (de_v 0) (dcs_guard (is := [2]) go.nd (dpat_seq go.calm (dpats_cons (dpat_str (Nat.lt_of_succ_lt hu)) (dpats_cons dpat_cap dpats_nil))) (.cons rfl (by first | exact Or.inl rfl | exact Or.inr rfl) (by first | exact .inl rfl | exact .inr rfl) .nil) ((dw_and (dt_val (de_isi h_isinstance (da_cons (de_v 2) (da_cons (de_tyN h_int PyProof.Rows.boot_int) da_nil)))) (dw_and (dt_not (dt_val (de_isi h_isinstance (da_cons (de_v 2) (da_cons (de_tyN h_bool PyProof.Rows.boot_bool) da_nil))))) (dw_and1 (dt_ge (de_v 2) de_int))))).t (dl_one (ds_ret (de_tup (da_cons de_str (da_cons (de_v 2) da_nil))))) (dcs_guard (is := [3, 7, 8, 9]) go.nd (dpat_seq go.calm (dpats_cons (dpat_str (Nat.lt_of_succ_lt hu)) (dpats_cons dpat_cap (dpats_cons (dpat_starseq go.calm (dpats_cons dpat_cap (dpats_cons dpat_cap (dpats_star dpats_nil)))) dpats_nil)))) (.cons rfl (by first | exact Or.inl rfl | exact Or.inr rfl) (by first | exact .inl rfl | exact .inr rfl) (.cons rfl (by first | exact Or.inl rfl | exact Or.inr rfl) (by first | exact .inl rfl | exact .inr rfl) (.cons rfl (by first | exact Or.inl rfl | exact Or.inr rfl) (by first | exact .inl rfl | exact .inr rfl) (.cons rfl (by first | exact Or.inl rfl | exact Or.inr rfl) (by first | exact .inl rfl | exact .inr rfl) .nil)))) ((dw_and (dt_val (de_isi h_isinstance (da_cons (de_v 3) (da_cons (de_tyN h_int PyProof.Rows.boot_int) da_nil)))) (dw_and1 (dt_not (dt_val (de_isi h_isinstance (da_cons (de_v 3) (da_cons (de_tyN h_bool PyProof.Rows.boot_bool) da_nil)))))))).t (dl_cons (ds_if (dt_lt (de_v 3) de_int) dl_never dl_nil)
 (dl_cons (ds_set 4 go.nd (de_lst (da_cons (de_v 7) (da_cons (de_v 8) (da_star (de_v 9) da_nil)))))
 (dl_cons (ds_set 5 go.nd (de_call [false, false] go h_checked_cells (hr.mono (by omega)) rfl (da_cons (de_v 4) (da_cons (de_v 1) da_nil))))
 (dl_cons (ds_set 6 go.nd (de_lst da_nil))
 (dl_cons (ds_for go (di_enum h_enumerate (da_cons (de_v 5) da_nil)) (dg_tup go.calm (dgs_cons (dg_name 10 go.nd) (dgs_cons (dg_name 11 go.nd) dgs_nil))) (dl_aft [(10, true), (11, true)] (dl_one (ds_expr (de_append (de_v 6) (de_tup (da_cons (de_v 11) (da_cons (de_call [false, false] go h_checked (hr.mono (by omega)) rfl (da_cons (de_ix (de_ix (de_v 4) (de_v 10)) de_int) (da_cons (de_tup (da_star (de_v 1) (da_cons (de_v 10) da_nil))) da_nil))) da_nil))))))))
 (dl_one (ds_ret (de_tup (da_cons de_str (da_cons (de_v 3) (da_cons (de_tuple h_tuple (da_cons (de_v 6) da_nil)) da_nil))))))))))) dcs_nil)))
 dl_never)
theorem sc_length_of : FnScope N_length_of ["rows"] (defScope s_length_of) := ⟨rfl, rfl, rfl, by decide +kernel, rfl, by decide +kernel, by decide +kernel⟩
theorem b_length_of {F_length_of : Fn} (h_length_of : DF P w K mg base "length_of" k 1 F_length_of) (h_int : mg "int" = none) (h_max : mg "max" = none) : Body P w K mg base N_length_of "length_of" (defScope s_length_of) f (defBody s_length_of) 1 (k + 1) (f_length_of F_length_of) := fun cdv A outer s H E hr => by
 have go : Go (cxOf (L2N.CX P w) P w K mg base N_length_of "length_of" (defScope s_length_of) f cdv A outer s H E) (WB E) := go_def (CX := L2N.CX P w) sc_length_of.nd hr
 have hu := go.rm
 exact (dl_cons (ds_if (dt_eq hu (de_ix (de_v 0) de_int) de_str) (dl_one (ds_rtA [0, 1, 2] (ds_ret de_int))) dl_nil)
 (dl_one (ds_rtA [0, 1, 2] (ds_ret (de_add de_int (de_max1 go h_max (da_cons (de_lc (g := (gT 2 (gsCons (gN 1) (gsCons (gN 2) gsNil)))) (tt := tYes') (te := (eB gInt (aCons (eCall [false] F_length_of (aCons (eVar 2) aNil)) aNil))) [("cell", 1), ("behind", 2)] go (di_seq (de_ix (de_v 0) de_int)) (show BlkOk N_length_of (defScope s_length_of) _ _ from ⟨rfl, by decide +kernel, by decide +kernel, by decide +kernel, by decide +kernel⟩) (fun _ _ _ _ _ => (dg_tup go.blk.calm (dgs_cons (dg_name 1 go.blk.nd) (dgs_cons (dg_name 2 go.blk.nd) dgs_nil)))) (fun _ _ _ _ _ => dts_nil) (fun _ _ _ _ _ => (de_int1 h_int (da_cons (de_call [false] go.blk h_length_of (hr.mono (by omega)) rfl (da_cons (de_v 2) da_nil)) da_nil)))) da_nil)))))))
theorem sc_Tree_DinitD : FnScope N_Tree_DinitD ["self", "rows"] (defScope s_Tree_DinitD) := ⟨rfl, rfl, rfl, by decide +kernel, rfl, by decide +kernel, by decide +kernel⟩
theorem b_Tree_DinitD {F_checked F_length_of : Fn} (h_checked : DF P w K mg base "checked" k 2 F_checked) (hf_rows : FldOk K ["Tree"] "rows") (h_length_of : DF P w K mg base "length_of" k 1 F_length_of) (hf_length : FldOk K ["Tree"] "length") : Body P w K mg base N_Tree_DinitD "Tree.__init__" (defScope s_Tree_DinitD) f (defBody s_Tree_DinitD) 2 (k + 1) (f_Tree_DinitD F_checked F_length_of) := fun cdv A outer s H E hr => by
 have go : Go (cxOf (L2N.CX P w) P w K mg base N_Tree_DinitD "Tree.__init__" (defScope s_Tree_DinitD) f cdv A outer s H E) (WB E) := go_def (CX := L2N.CX P w) sc_Tree_DinitD.nd hr
 have hu := go.rm
 exact (dl_cons (ds_setF hf_rows (de_v 0) (de_call [false, false] go h_checked (hr.mono (by omega)) rfl (da_cons (de_v 1) (da_cons (de_tup da_nil) da_nil))))
 (dl_one (ds_setF hf_length (de_v 0) (de_call [false] go h_length_of (hr.mono (by omega)) rfl (da_cons (de_fld hf_rows (de_v 0)) da_nil)))))
theorem scZway : FnScope NZway ["_law_rows", "_law_combo", "_law_path"] (defScope sZway) := ⟨rfl, rfl, rfl, by decide +kernel, rfl, by decide +kernel, by decide +kernel⟩
theorem bZway {FZway : Fn} (h_len : mg "len" = none) (h_range : mg "range" = none) (h_bool : mg "bool" = none) (h_isinstance : mg "isinstance" = none) (hZway : DF P w K mg base "_law_way" k 3 FZway) : Body P w K mg base NZway "_law_way" (defScope sZway) f (defBody sZway) 3 (k + 1) (fZway FZway) := fun cdv A outer s H E hr => by
 have go : Go (cxOf (L2N.CX P w) P w K mg base NZway "_law_way" (defScope sZway) f cdv A outer s H E) (WB E) := go_def (CX := L2N.CX P w) scZway.nd hr
 have hu := go.rm
 exact (dl_cons (ds_if (dt_eq hu (de_ix (de_v 0) de_int) de_str) (dl_one (ds_rtA [0, 1, 2, 3] (ds_ret (de_tup (da_cons (de_v 2) (da_cons (de_ix (de_v 0) de_int) da_nil)))))) dl_nil)
 (dl_cons (ds_for go (di_rng1 rfl h_range (da_cons (de_len h_len (da_cons (de_ix (de_v 0) de_int) da_nil)) da_nil)) (dg_name 3 go.nd) (dl_aft [(3, true)] (dl_one (ds_if ((dw_and (dt_not (dt_val (de_isi h_isinstance (da_cons (de_ix (de_v 1) (de_ix (de_v 0) de_int)) (da_cons (de_tyN h_bool PyProof.Rows.boot_bool) da_nil))))) (dw_and1 (dt_in hu (de_ix (de_v 1) (de_ix (de_v 0) de_int)) (de_ix (de_ix (de_ix (de_v 0) de_int) (de_v 3)) de_int))))).t (dl_one (ds_rtA [0, 1, 2, 3] (ds_ret (de_call [false, false, false] go hZway (hr.mono (by omega)) rfl (da_cons (de_ix (de_ix (de_ix (de_v 0) de_int) (de_v 3)) de_int) (da_cons (de_v 1) (da_cons (de_add (de_v 2) (de_tup (da_cons (de_v 3) da_nil))) da_nil))))))) dl_nil))))
 (dl_one (ds_rtA [0, 1, 2, 3] (ds_ret (de_tup (da_cons (de_v 2) (da_cons de_non da_nil))))))))
theorem sc_branch_of : FnScope N_branch_of ["rows", "standing"] (defScope s_branch_of) := ⟨rfl, rfl, rfl, by decide +kernel, rfl, by decide +kernel, by decide +kernel⟩
theorem b_branch_of {F_is_number : Fn} (h_enumerate : mg "enumerate" = none) (h_is_number : DF P w K mg base "is_number" k 1 F_is_number) : Body P w K mg base N_branch_of "branch_of" (defScope s_branch_of) f (defBody s_branch_of) 2 (k + 1) (f_branch_of F_is_number) := fun cdv A outer s H E hr => by
 have go : Go (cxOf (L2N.CX P w) P w K mg base N_branch_of "branch_of" (defScope s_branch_of) f cdv A outer s H E) (WB E) := go_def (CX := L2N.CX P w) sc_branch_of.nd hr
 have hu := go.rm
 exact (dl_cons (ds_for go (di_enum h_enumerate (da_cons (de_ix (de_v 0) de_int) da_nil)) (dg_tup go.calm (dgs_cons (dg_name 2 go.nd) (dgs_cons (dg_tup go.calm (dgs_cons (dg_name 3 go.nd) (dgs_cons (dg_name 4 go.nd) dgs_nil))) dgs_nil))) (dl_aft [(2, true), (3, true), (4, true)] (dl_one (ds_if ((dw_and (dt_val (de_call [false] go h_is_number (hr.mono (by omega)) rfl (da_cons (de_v 1) da_nil))) (dw_and1 (dt_in hu (de_v 1) (de_v 3))))).t (dl_one (ds_rtA [0, 1, 2, 3, 4] (ds_ret (de_v 2)))) dl_nil))))
 (dl_one (ds_rtA [0, 1, 2, 3, 4] (ds_ret de_non))))
abbrev s_Tree_DcallD_x : Stmt := s_Tree_DcallD
theorem sc_Tree_DcallD_x : FnScope N_Tree_DcallD_x ["self", "combination"] (defScope s_Tree_DcallD_x) := ⟨rfl, rfl, rfl, by decide +kernel, rfl, by decide +kernel, by decide +kernel⟩
theorem b_Tree_DcallD_x {F_branch_of : Fn} (hf_rows : FldOk K ["Tree"] "rows") (h_branch_of : DF P w K mg base "branch_of" k 2 F_branch_of) (hraF_BadAnswer : RaF P w K mg base "BadAnswer" "path" k) : Body P w K mg base N_Tree_DcallD_x "Tree.__call__" (defScope s_Tree_DcallD_x) f (defBody s_Tree_DcallD_x) 2 (k + 1) (f_Tree_DcallD_x F_branch_of) := fun cdv A outer s H E hr => by
 have go : Go (cxOf (L2N.CX P w) P w K mg base N_Tree_DcallD_x "Tree.__call__" (defScope s_Tree_DcallD_x) f cdv A outer s H E) (WB E) := go_def (CX := L2N.CX P w) sc_Tree_DcallD_x.nd hr
 have hu := go.rm
 exact (dl_cons (ds_set 2 go.nd (de_fld hf_rows (de_v 0)))
 (dl_cons (ds_set 3 go.nd (de_tup da_nil))
 (dl_cons (ds_while go (dt_eq hu (de_ix (de_v 2) de_int) de_str) (dl_aft [(4, true)] (dl_cons (ds_set 4 go.nd (de_call [false, false] go h_branch_of (hr.mono (by omega)) rfl (da_cons (de_v 2) (da_cons (de_ix (de_v 1) (de_ix (de_v 2) de_int)) da_nil))))
 (dl_cons (ds_if (dt_is (de_v 4) de_non) (dl_one (ds_rtA [0, 1, 2, 3, 4] (ds_raiseF go hraF_BadAnswer hr (da_cons (de_v 3) da_nil)))) dl_nil)
 (dl_cons (ds_set 2 go.nd (de_ix (de_ix (de_ix (de_v 2) de_int) (Tl.de_un (de_v 4))) de_int))
 (dl_one (ds_set 3 go.nd (de_tup (da_star (de_v 3) (da_cons (de_v 4) da_nil))))))))))
 dl_never)))
theorem scZsame : FnScope NZsame ["_law_actual", "_law_expected"] (defScope sZsame) := ⟨rfl, rfl, rfl, by decide +kernel, rfl, by decide +kernel, by decide +kernel⟩
theorem bZsame {FZsame : Fn} (h_bool : mg "bool" = none) (h_isinstance : mg "isinstance" = none) (h_int : mg "int" = none) (h_str : mg "str" = none) (h_tuple : mg "tuple" = none) (h_list : mg "list" = none) (h_len : mg "len" = none) (h_range : mg "range" = none) (hZsame : DF P w K mg base "_law_same" k 2 FZsame) : Body P w K mg base NZsame "_law_same" (defScope sZsame) f (defBody sZsame) 2 (k + 1) (fZsame FZsame) := fun cdv A outer s H E hr => by
 have go : Go (cxOf (L2N.CX P w) P w K mg base NZsame "_law_same" (defScope sZsame) f cdv A outer s H E) (WB E) := go_def (CX := L2N.CX P w) scZsame.nd hr
 have hu := go.rm
 exact (dl_cons (ds_if (dt_is (de_v 1) de_non) (dl_one (ds_ret (de_is (de_v 0) de_non))) dl_nil)
 (dl_cons (ds_if (dt_val (de_isi h_isinstance (da_cons (de_v 1) (da_cons (de_tyN h_bool PyProof.Rows.boot_bool) da_nil)))) (dl_one (ds_ret (de_and (de_isi h_isinstance (da_cons (de_v 0) (da_cons (de_tyN h_bool PyProof.Rows.boot_bool) da_nil))) (de_one (de_eq hu (de_v 0) (de_v 1)))))) dl_nil)
 (dl_cons (ds_if (dt_val (de_isi h_isinstance (da_cons (de_v 1) (da_cons (de_tyN h_int PyProof.Rows.boot_int) da_nil)))) (dl_one (ds_ret (de_and (de_isi h_isinstance (da_cons (de_v 0) (da_cons (de_tyN h_int PyProof.Rows.boot_int) da_nil))) (de_and (de_not (de_isi h_isinstance (da_cons (de_v 0) (da_cons (de_tyN h_bool PyProof.Rows.boot_bool) da_nil)))) (de_one (de_eq hu (de_v 0) (de_v 1))))))) dl_nil)
 (dl_cons (ds_if (dt_val (de_isi h_isinstance (da_cons (de_v 1) (da_cons (de_tyN h_str PyProof.Rows.boot_str) da_nil)))) (dl_one (ds_ret (de_and (de_isi h_isinstance (da_cons (de_v 0) (da_cons (de_tyN h_str PyProof.Rows.boot_str) da_nil))) (de_one (de_eq hu (de_v 0) (de_v 1)))))) dl_nil)
 (dl_cons (ds_if ((dw_and (dt_val (de_isi h_isinstance (da_cons (de_v 1) (da_cons (de_tyN h_tuple PyProof.Rows.boot_tuple) da_nil)))) (dw_and1 (dt_not (dt_val (de_isi h_isinstance (da_cons (de_v 0) (da_cons (de_tyN h_tuple PyProof.Rows.boot_tuple) da_nil)))))))).t (dl_one (ds_ret de_bl)) dl_nil)
 (dl_cons (ds_if ((dw_and (dt_val (de_isi h_isinstance (da_cons (de_v 1) (da_cons (de_tyN h_list PyProof.Rows.boot_list) da_nil)))) (dw_and1 (dt_not (dt_val (de_isi h_isinstance (da_cons (de_v 0) (da_cons (de_tyN h_list PyProof.Rows.boot_list) da_nil)))))))).t (dl_one (ds_ret de_bl)) dl_nil)
 (dl_cons (ds_if (dt_ne hu (de_len h_len (da_cons (de_v 0) da_nil)) (de_len h_len (da_cons (de_v 1) da_nil))) (dl_one (ds_ret de_bl)) dl_nil)
 (dl_cons (ds_setLc (g := (gN 3)) (tt := (tNot (tVal (eCall [false, false] FZsame (aCons (eIx (eVar 0) (eVar 3)) (aCons (eIx (eVar 1) (eVar 3)) aNil)))))) (te := (eVar 3)) 2 [("_law_k", 3)] rfl rfl rfl rfl rfl go (di_rng1 rfl h_range (da_cons (de_len h_len (da_cons (de_v 1) da_nil)) da_nil)) (show BlkOk NZsame (defScope sZsame) _ _ from ⟨rfl, by decide +kernel, by decide +kernel, by decide +kernel, by decide +kernel⟩) (fun _ _ _ _ _ => (dg_name 3 go.blk.nd)) (fun _ _ _ _ _ => (dts_one (dt_not (dt_val (de_call [false, false] go.blk hZsame (hr.mono (by omega)) rfl (da_cons (de_ix (de_v 0) (de_v 3)) (da_cons (de_ix (de_v 1) (de_v 3)) da_nil))))))) (fun _ _ _ _ _ => (de_v 3)))
 (dl_one (ds_ret (de_eq hu (de_v 2) (de_lst da_nil))))))))))))
theorem bWZsame {FZsame : Fn} (h_bool : mg "bool" = none) (h_isinstance : mg "isinstance" = none) (h_int : mg "int" = none) (h_str : mg "str" = none) (h_tuple : mg "tuple" = none) (h_list : mg "list" = none) (h_len : mg "len" = none) (h_range : mg "range" = none) (hZsame : DFW P w K mg base "_law_same" k 2 FZsame) : BodyW P w K mg base NZsame "_law_same" (defScope sZsame) f (defBody sZsame) 2 k (fZsame FZsame) := fun cdv A outer s H E p hr hc => by
 have nd := scZsame.nd
 have hu : Rm (L2H.cxH (L2N.CX P w) P w K mg base NZsame "_law_same" (defScope sZsame) f cdv A outer s H E p) := by have h := hr.un; show (A.deeper (PyProof.Rows.envOfC "_law_same" (defScope sZsame) s.heap.objs.size f cdv)).units + 65 < cLine; omega
 exact (dl_cons (ds_if (dt_is (de_v 1) de_non) (dl_one (ds_ret (de_is (de_v 0) de_non))) dl_nil)
 (dl_cons (ds_if (dt_val (de_isi h_isinstance (da_cons (de_v 1) (da_cons (de_tyN h_bool PyProof.Rows.boot_bool) da_nil)))) (dl_one (ds_ret (de_and (de_isi h_isinstance (da_cons (de_v 0) (da_cons (de_tyN h_bool PyProof.Rows.boot_bool) da_nil))) (de_one (de_eq hu (de_v 0) (de_v 1)))))) dl_nil)
 (dl_cons (ds_if (dt_val (de_isi h_isinstance (da_cons (de_v 1) (da_cons (de_tyN h_int PyProof.Rows.boot_int) da_nil)))) (dl_one (ds_ret (de_and (de_isi h_isinstance (da_cons (de_v 0) (da_cons (de_tyN h_int PyProof.Rows.boot_int) da_nil))) (de_and (de_not (de_isi h_isinstance (da_cons (de_v 0) (da_cons (de_tyN h_bool PyProof.Rows.boot_bool) da_nil)))) (de_one (de_eq hu (de_v 0) (de_v 1))))))) dl_nil)
 (dl_cons (ds_if (dt_val (de_isi h_isinstance (da_cons (de_v 1) (da_cons (de_tyN h_str PyProof.Rows.boot_str) da_nil)))) (dl_one (ds_ret (de_and (de_isi h_isinstance (da_cons (de_v 0) (da_cons (de_tyN h_str PyProof.Rows.boot_str) da_nil))) (de_one (de_eq hu (de_v 0) (de_v 1)))))) dl_nil)
 (dl_cons (ds_if ((dw_and (dt_val (de_isi h_isinstance (da_cons (de_v 1) (da_cons (de_tyN h_tuple PyProof.Rows.boot_tuple) da_nil)))) (dw_and1 (dt_not (dt_val (de_isi h_isinstance (da_cons (de_v 0) (da_cons (de_tyN h_tuple PyProof.Rows.boot_tuple) da_nil)))))))).t (dl_one (ds_ret de_bl)) dl_nil)
 (dl_cons (ds_if ((dw_and (dt_val (de_isi h_isinstance (da_cons (de_v 1) (da_cons (de_tyN h_list PyProof.Rows.boot_list) da_nil)))) (dw_and1 (dt_not (dt_val (de_isi h_isinstance (da_cons (de_v 0) (da_cons (de_tyN h_list PyProof.Rows.boot_list) da_nil)))))))).t (dl_one (ds_ret de_bl)) dl_nil)
 (dl_cons (ds_if (dt_ne hu (de_len h_len (da_cons (de_v 0) da_nil)) (de_len h_len (da_cons (de_v 1) da_nil))) (dl_one (ds_ret de_bl)) dl_nil)
 (dl_cons (ds_setLcW (g := (gN 3)) (tt := (tNot (tVal (eCall [false, false] FZsame (aCons (eIx (eVar 0) (eVar 3)) (aCons (eIx (eVar 1) (eVar 3)) aNil)))))) (te := (eVar 3)) 2 [("_law_k", 3)] rfl rfl rfl rfl rfl hc nd rfl h_range (da_cons (de_len h_len (da_cons (de_v 1) da_nil)) da_nil) (show BlkOk NZsame (defScope sZsame) _ _ from ⟨rfl, by decide +kernel, by decide +kernel, by decide +kernel, by decide +kernel⟩) (fun _ _ _ hw => ⟨(dg_name 3 nd), (dts_one (dt_not (dt_val (de_callW [false, false] takes0N hw hZsame hr rfl (da_cons (de_ix (de_v 0) (de_v 3)) (da_cons (de_ix (de_v 1) (de_v 3)) da_nil)))))), (de_v 3)⟩))
 (dl_one (ds_ret (de_eq hu (de_v 2) (de_lst da_nil))))))))))))
theorem scZrefused : FnScope NZrefused ["_law_tree_here", "_law_combo", "_law_path"] (defScope sZrefused) := ⟨rfl, rfl, rfl, by decide +kernel, rfl, by decide +kernel, by decide +kernel⟩
theorem bZrefused {F_Tree_DcallD_x FZsame : Fn} (h_Tree_DcallD_x : DDun P w K mg base "Tree" "__call__" k 2 F_Tree_DcallD_x) (hg_BadAnswer : mg "BadAnswer" = some (.ref (He.ga K "BadAnswer"))) (hX_BadAnswer : PySem.W.exmOne K (.ref (He.ga K "BadAnswer")) (.ref (He.ga K "BadAnswer")) = some true) (hXf_BadAnswer : L2.XfC K (He.ga K "BadAnswer")) (hXn_BadAnswer : PySem.W.findIn K (.ref (He.ga K "BadAnswer")) "path" = some none) (hKZsame : Tl.KeepB FZsame) (h_isinstance : mg "isinstance" = none) (hT_BadAnswer : IsT K "BadAnswer" tc_BadAnswer tt_BadAnswer) (hg_BadRule : mg "BadRule" = some (.ref (He.ga K "BadRule"))) (hg_BadBox : mg "BadBox" = some (.ref (He.ga K "BadBox"))) (hg_BadTree : mg "BadTree" = some (.ref (He.ga K "BadTree"))) (hg_BadTurn : mg "BadTurn" = some (.ref (He.ga K "BadTurn"))) (hg_BadRow : mg "BadRow" = some (.ref (He.ga K "BadRow"))) (hg_AskError : mg "AskError" = some (.ref (He.ga K "AskError"))) (h_ValueError : mg "ValueError" = none) (hWZsame : DFW P w K mg base "_law_same" k 2 FZsame) : Body P w K mg base NZrefused "_law_refused" (defScope sZrefused) f (defBody sZrefused) 3 (k + 1) (fZrefused F_Tree_DcallD_x FZsame) := fun cdv A outer s H E hr => by
 have go : Go (cxOf (L2N.CX P w) P w K mg base NZrefused "_law_refused" (defScope sZrefused) f cdv A outer s H E) (WB E) := go_def (CX := L2N.CX P w) scZrefused.nd hr
 have hu := go.rm
 exact (dl_cons (Tl.ds_tryI go hg_BadAnswer hX_BadAnswer (fun _ _ _ go2 => dl_one (ds_expr (de_own_call [false, false] go2 h_Tree_DcallD_x (hr.mono (by omega)) (de_v 0) (da_cons (de_v 1) da_nil)))) (fun a dx oe pn hx => (dl_cons (ds_if ((dw_or (dt_val (de_isF hx hT_BadAnswer h_isinstance (da_cons (de_v 3) (da_cons (de_cls hg_BadRule) da_nil)))) (dw_or (dt_val (de_isF hx hT_BadAnswer h_isinstance (da_cons (de_v 3) (da_cons (de_cls hg_BadBox) da_nil)))) (dw_or1 (dt_val (de_isF hx hT_BadAnswer h_isinstance (da_cons (de_v 3) (da_cons (de_cls hg_BadTree) da_nil)))))))).t (dl_one (ds_rtA [0, 1, 2, 3] (ds_ret de_bl))) dl_nil)
 (dl_cons (ds_if ((dw_or (dt_val (de_isF hx hT_BadAnswer h_isinstance (da_cons (de_v 3) (da_cons (de_cls hg_BadTurn) da_nil)))) (dw_or1 (dt_val (de_isF hx hT_BadAnswer h_isinstance (da_cons (de_v 3) (da_cons (de_cls hg_BadRow) da_nil))))))).t (dl_one (ds_rtA [0, 1, 2, 3] (ds_ret de_bl))) dl_nil)
 (dl_one (ds_rtA [0, 1, 2, 3] (ds_ret (de_and (de_isF hx hT_BadAnswer h_isinstance (da_cons (de_v 3) (da_cons (de_cls hg_AskError) da_nil))) (de_and (de_isF hx hT_BadAnswer h_isinstance (da_cons (de_v 3) (da_cons (de_tyN h_ValueError (by decide +kernel)) da_nil))) (de_one (de_callW [false, false] takes0N hx.w hWZsame (roomH_suite (hr.mono (by omega))) rfl (da_cons (de_xf hx hXf_BadAnswer hXn_BadAnswer (de_v 3)) (da_cons (de_v 2) da_nil)))))))))))) (sulZrefused_1 hKZsame) rfl)
 dl_never)
theorem sc_Tree_DcallD : FnScope N_Tree_DcallD ["self", "combination"] (defScope s_Tree_DcallD) := ⟨rfl, rfl, rfl, by decide +kernel, rfl, by decide +kernel, by decide +kernel⟩
theorem b_Tree_DcallD {F_branch_of : Fn} (hf_rows : FldOk K ["Tree"] "rows") (h_branch_of : DF P w K mg base "branch_of" k 2 F_branch_of) : Body P w K mg base N_Tree_DcallD "Tree.__call__" (defScope s_Tree_DcallD) f (defBody s_Tree_DcallD) 2 (k + 1) (f_Tree_DcallD F_branch_of) := fun cdv A outer s H E hr => by
 have go : Go (cxOf (L2N.CX P w) P w K mg base N_Tree_DcallD "Tree.__call__" (defScope s_Tree_DcallD) f cdv A outer s H E) (WB E) := go_def (CX := L2N.CX P w) sc_Tree_DcallD.nd hr
 have hu := go.rm
 exact (dl_cons (ds_set 2 go.nd (de_fld hf_rows (de_v 0)))
 (dl_cons (ds_set 3 go.nd (de_tup da_nil))
 (dl_cons (ds_while go (dt_eq hu (de_ix (de_v 2) de_int) de_str) (dl_aft [(4, true)] (dl_cons (ds_set 4 go.nd (de_call [false, false] go h_branch_of (hr.mono (by omega)) rfl (da_cons (de_v 2) (da_cons (de_ix (de_v 1) (de_ix (de_v 2) de_int)) da_nil))))
 (dl_cons (ds_if (dt_is (de_v 4) de_non) dl_never dl_nil)
 (dl_cons (ds_set 2 go.nd (de_ix (de_ix (de_ix (de_v 2) de_int) (Tl.de_un (de_v 4))) de_int))
 (dl_one (ds_set 3 go.nd (de_tup (da_star (de_v 3) (da_cons (de_v 4) da_nil))))))))))
 (dl_one (ds_rtA [0, 1, 2, 3, 4] (ds_ret (de_ix (de_v 2) de_int)))))))
theorem sc_law : FnScope N_law ["_law_script"] (defScope s_law) := ⟨rfl, rfl, rfl, by decide +kernel, rfl, by decide +kernel, by decide +kernel⟩
theorem b_law {FZcell FZsource FZsizes FZfull FZtree F_Tree_DinitD FZdraw FZway FZrefused F_Tree_DcallD FZsame : Fn} (hZcell : DF P w K mg base "_law_cell" k 2 FZcell) (hZsource : DF P w K mg base "_law_source" k 1 FZsource) (hZsizes : DF P w K mg base "_law_sizes" k 4 FZsizes) (hZfull : DF P w K mg base "_law_full" k 1 FZfull) (hZtree : DF P w K mg base "_law_tree" k 3 FZtree) (h_Tree_DinitD : DM P w K mg base "Tree" k 2 F_Tree_DinitD) (h_range : mg "range" = none) (hZdraw : DF P w K mg base "_law_draw" k 2 FZdraw) (hZway : DF P w K mg base "_law_way" k 3 FZway) (hZrefused : DF P w K mg base "_law_refused" k 3 FZrefused) (h_Tree_DcallD : DDun P w K mg base "Tree" "__call__" k 2 F_Tree_DcallD) (hZsame : DF P w K mg base "_law_same" k 2 FZsame) (hf_rows : FldOk K ["Tree"] "rows") : Body P w K mg base N_law "law" (defScope s_law) f (defBody s_law) 1 (k + 1) (f_law FZcell FZsource FZsizes FZfull FZtree F_Tree_DinitD FZdraw FZway FZrefused F_Tree_DcallD FZsame) := fun cdv A outer s H E hr => by
 have go : Go (cxOf (L2N.CX P w) P w K mg base N_law "law" (defScope s_law) f cdv A outer s H E) (WB E) := go_def (CX := L2N.CX P w) sc_law.nd hr
 have hu := go.rm
 exact (dl_cons (ds_set 1 go.nd (de_call [false] go hZsource (hr.mono (by omega)) rfl (da_cons (de_call [false, false] go hZcell (hr.mono (by omega)) rfl (da_cons (de_v 0) (da_cons de_int da_nil))) da_nil)))
 (dl_cons (ds_set 2 go.nd (de_call [false] go hZsource (hr.mono (by omega)) rfl (da_cons (de_call [false, false] go hZcell (hr.mono (by omega)) rfl (da_cons (de_v 0) (da_cons de_int da_nil))) da_nil)))
 (dl_cons (ds_fz 3 (ds_set 3 go.nd (de_call [true, false, false, false] go hZsizes (hr.mono (by omega)) rfl (da_cons (de_v 1) (da_cons de_int (da_cons de_int (da_cons de_int da_nil)))))))
 (dl_cons (ds_set 4 go.nd (de_callT2 [false, true, true] go hZtree (hr.mono (by omega)) rfl (dat_cons2 (de_call [false] go hZfull (hr.mono (by omega)) rfl (da_cons (de_v 3) da_nil)) (dat_tmp2 (de_call [false] go hZsource (hr.mono (by omega)) rfl (da_cons (de_call [false, false] go hZcell (hr.mono (by omega)) rfl (da_cons (de_v 0) (da_cons de_int da_nil))) da_nil)) (dat_tmp (de_lst da_nil) da_nil)))))
 (dl_cons (ds_fz 5 (ds_set 5 go.nd (de_make [false] go h_Tree_DinitD hr rfl (da_cons (de_v 4) da_nil))))
 (dl_cons (ds_for go (di_rng1 rfl h_range (da_cons de_int da_nil)) (dg_name 6 go.nd) (dl_aft [(6, true), (7, true), (8, true), (9, true), (10, true)] (dl_cons (ds_set 7 go.nd (de_tup da_nil))
 (dl_cons (ds_for go (di_seq (de_v 3)) (dg_name 8 go.nd) (dl_aft [(8, true), (10, true)] (dl_cons (ds_set 10 go.nd (de_call [true, false] go hZdraw (hr.mono (by omega)) rfl (da_cons (de_v 2) (da_cons (de_v 8) da_nil))))
 (dl_cons (ds_if (dt_eq hu (de_call [true, false] go hZdraw (hr.mono (by omega)) rfl (da_cons (de_v 2) (da_cons de_int da_nil))) de_int) (dl_one (ds_set 10 go.nd (de_ix (de_lst (da_cons (de_v 8) (da_cons (de_add (de_v 8) (de_call [true, false] go hZdraw (hr.mono (by omega)) rfl (da_cons (de_v 2) (da_cons (de_sub (de_pow de_int de_int) de_int) da_nil)))) (da_cons de_bl (da_cons de_bl da_nil))))) (de_call [true, false] go hZdraw (hr.mono (by omega)) rfl (da_cons (de_v 2) (da_cons de_int da_nil)))))) dl_nil)
 (dl_one (ds_set 7 go.nd (de_add (de_v 7) (de_tup (da_cons (de_v 10) da_nil)))))))))
 (dl_cons (ds_set 9 go.nd (de_call [false, false, false] go hZway (hr.mono (by omega)) rfl (da_cons (de_v 4) (da_cons (de_v 7) (da_cons (de_tup da_nil) da_nil)))))
 (dl_one (ds_if (dt_is (de_ix (de_v 9) de_int) de_non) (dl_one (ds_if (dt_not (dt_val (de_call [false, false, false] go hZrefused (hr.mono (by omega)) rfl (da_cons (de_v 5) (da_cons (de_v 7) (da_cons (de_ix (de_v 9) de_int) da_nil)))))) (dl_one (ds_rtA [0, 1, 2, 3, 4, 5, 6, 7, 8, 9, 10] (ds_ret de_bl))) dl_nil)) (dl_one (ds_if (dt_not (dt_val (de_call [false, false] go hZsame (hr.mono (by omega)) rfl (da_cons (de_own_call [false, false] go h_Tree_DcallD (hr.mono (by omega)) (de_v 5) (da_cons (de_v 7) da_nil)) (da_cons (de_ix (de_v 9) de_int) da_nil))))) (dl_one (ds_rtA [0, 1, 2, 3, 4, 5, 6, 7, 8, 9, 10] (ds_ret de_bl))) dl_nil)))))))))
 (dl_one (ds_rtA [0, 1, 2, 3, 4, 5, 6, 7, 8, 9, 10] (ds_ret (de_call [false, false] go hZsame (hr.mono (by omega)) rfl (da_cons (de_fld hf_rows (de_v 5)) (da_cons (de_v 4) da_nil))))))))))))
end
end My
namespace My
open PySem PySem.Spec PyProof.Rows L2 Dl
def fn_law : Fn
 | [.val (.scr ns)] => some (.ret (.val (.bl true)) [.val (.scr ns)])
 | _ => none
theorem le_law : Fn.le fn_law Fn_law := by
 intro ss o h
 unfold fn_law at h
 split at h
 · rename_i ns
   cases h
   rw [eq_law, law_true]; rfl
 · cases h
theorem raF_up {P : Program} {w : World} {K : PySem.W.Frag} {mg : Str → Option Value} {base : Heap} {x fld : Str} {j k : Nat} (T : RaF P w K mg base x fld j) (h : j ≤ k) : RaF P w K mg base x fld k :=
 let ⟨fI, fd, a, b, c1, c2, c3, c4⟩ := T.ex; ⟨T.at_, T.T, fI, fd, a, b, c1, c2, c3, c4.mono h⟩
theorem all {P : Program} {w : World} {K : PySem.W.Frag} {h base : Heap} {mg : Str → Option Value} {f : Addr} {fd : FuncData} (X : K.In h) (G : h.Ns mainGlobals mg) (ce : SaysY ocs prs fn fa exB xiL K) (hPf : ((P.main.file : Str) == PySem.Challenge.pw_plainask_k18_tree_strangers.main.file) = true) (hPs : (P.main.scope.names.lookup ("super" : Str)).isSome = false) (F : FunD K "law" "law" (defArgs s_law) (defBody s_law) (defScope s_law) [] [] f fd) : FnOk P w K mg base (L2N.CX P w) 82 f fd ["_law_script"] (spD K 1 fn_law) := by
 have c := ce.d
 have h_len : mg "len" = none := He.free_ok X G (c.fact 42 (f := .free "len") rfl)
 have h_int : mg "int" = none := He.free_ok X G (c.fact 40 (f := .free "int") rfl)
 have h_min : mg "min" = none := He.free_ok X G (c.fact 45 (f := .free "min") rfl)
 have h_range : mg "range" = none := He.free_ok X G (c.fact 46 (f := .free "range") rfl)
 have h_list : mg "list" = none := He.free_ok X G (c.fact 43 (f := .free "list") rfl)
 have h_tuple : mg "tuple" = none := He.free_ok X G (c.fact 50 (f := .free "tuple") rfl)
 have h_isinstance : mg "isinstance" = none := He.free_ok X G (c.fact 41 (f := .free "isinstance") rfl)
 have h_bool : mg "bool" = none := He.free_ok X G (c.fact 38 (f := .free "bool") rfl)
 have h_sorted : mg "sorted" = none := He.free_ok X G (c.fact 47 (f := .free "sorted") rfl)
 have h_enumerate : mg "enumerate" = none := He.free_ok X G (c.fact 39 (f := .free "enumerate") rfl)
 have h_max : mg "max" = none := He.free_ok X G (c.fact 44 (f := .free "max") rfl)
 have hf_rows : FldOk K ["Tree"] "rows" := ⟨fun n hn => by rw [List.mem_singleton.mp hn]; exact ⟨He.cls_ok (c.fact 29 (f := .cls "Tree") rfl), He.noat_ok (c.fact 36 (f := .noat "Tree" "rows") rfl)⟩⟩
 have hf_length : FldOk K ["Tree"] "length" := ⟨fun n hn => by rw [List.mem_singleton.mp hn]; exact ⟨He.cls_ok (c.fact 29 (f := .cls "Tree") rfl), He.noat_ok (c.fact 35 (f := .noat "Tree" "length") rfl)⟩⟩
 have h_super : mg "super" = none := He.free_ok X G (c.fact 49 (f := .free "super") rfl)
 have hg_BadAnswer : mg "BadAnswer" = some (.ref (He.ga K "BadAnswer")) := He.glo_ok X G (c.fact 25 (f := .glo "BadAnswer") rfl)
 have h_str : mg "str" = none := He.free_ok X G (c.fact 48 (f := .free "str") rfl)
 have hX_BadAnswer : PySem.W.exmOne K (.ref (He.ga K "BadAnswer")) (.ref (He.ga K "BadAnswer")) = some true := (xt_rest ce.more).1
 have hT_BadAnswer : IsT K "BadAnswer" tc_BadAnswer tt_BadAnswer := isT_ok ce.more
 have hg_BadRule : mg "BadRule" = some (.ref (He.ga K "BadRule")) := He.glo_ok X G (c.fact 21 (f := .glo "BadRule") rfl)
 have hg_BadBox : mg "BadBox" = some (.ref (He.ga K "BadBox")) := He.glo_ok X G (c.fact 22 (f := .glo "BadBox") rfl)
 have hg_BadTree : mg "BadTree" = some (.ref (He.ga K "BadTree")) := He.glo_ok X G (c.fact 24 (f := .glo "BadTree") rfl)
 have hg_BadTurn : mg "BadTurn" = some (.ref (He.ga K "BadTurn")) := He.glo_ok X G (c.fact 26 (f := .glo "BadTurn") rfl)
 have hg_BadRow : mg "BadRow" = some (.ref (He.ga K "BadRow")) := He.glo_ok X G (c.fact 27 (f := .glo "BadRow") rfl)
 have hg_AskError : mg "AskError" = some (.ref (He.ga K "AskError")) := He.glo_ok X G (c.fact 19 (f := .glo "AskError") rfl)
 have h_ValueError : mg "ValueError" = none := He.free_ok X G (c.fact 37 (f := .free "ValueError") rfl)
 obtain ⟨fdZcell, FZcell⟩ := c.def_ 8 (d := dZcell) rfl
 obtain ⟨fdZsource, FZsource⟩ := c.def_ 9 (d := dZsource) rfl
 obtain ⟨fdZdraw, FZdraw⟩ := c.def_ 10 (d := dZdraw) rfl
 obtain ⟨fdZsizes, FZsizes⟩ := c.def_ 12 (d := dZsizes) rfl
 obtain ⟨fdZfull, FZfull⟩ := c.def_ 11 (d := dZfull) rfl
 obtain ⟨fdZsplit, FZsplit⟩ := c.def_ 13 (d := dZsplit) rfl
 obtain ⟨fdZtree, FZtree⟩ := c.def_ 14 (d := dZtree) rfl
 obtain ⟨fd_is_integer, F_is_integer⟩ := c.def_ 1 (d := d_is_integer) rfl
 obtain ⟨fd_is_number, F_is_number⟩ := c.def_ 2 (d := d_is_number) rfl
 obtain ⟨fd_ascending, F_ascending⟩ := c.def_ 3 (d := d_ascending) rfl
 obtain ⟨fd_checked_cells, F_checked_cells⟩ := c.def_ 5 (d := d_checked_cells) rfl
 obtain ⟨fd_checked, F_checked⟩ := c.def_ 4 (d := d_checked) rfl
 obtain ⟨fd_length_of, F_length_of⟩ := c.def_ 6 (d := d_length_of) rfl
 obtain ⟨fd_Tree_DinitD, F_Tree_DinitD⟩ := c.def_ 19 (d := d_Tree_DinitD) rfl
 obtain ⟨fdZway, FZway⟩ := c.def_ 16 (d := dZway) rfl
 obtain ⟨fd_branch_of, F_branch_of⟩ := c.def_ 7 (d := d_branch_of) rfl
 obtain ⟨fdZsame, FZsame⟩ := c.def_ 15 (d := dZsame) rfl
 obtain ⟨fdZrefused, FZrefused⟩ := c.def_ 17 (d := dZrefused) rfl
 obtain ⟨fd_Tree_DcallD, F_Tree_DcallD⟩ := c.def_ 20 (d := d_Tree_DcallD) rfl
 obtain ⟨hraF_BadAnswer, hXf_BadAnswer, hXn_BadAnswer⟩ := raF_of (P := P) (w := w) (base := base) (k := 0) (self := "self") (par := "path") (x := "BadAnswer") (fld := "path") (file := PySem.Challenge.pw_plainask_k18_tree_strangers.main.file) (d := d_BadAnswer_DinitD) rfl hg_BadAnswer (ce.ini 0).1 (ce.ini 0).2 (fun kV doc pm cda ct an cc => Binds.all fun us hl => match us, hl with | [_, _], _ => rfl) (fun fd F => xi_fn F rfl (fun _ => rfl) (fun _ => rfl) (fun _ => rfl) hPf hPs h_super rfl rfl (by decide))
 have n0_ := FunD.bindsN (ps := ["_law_actual", "_law_expected"]) FZsame fun _ _ _ _ _ _ us hl => match us, hl with | [_, _], _ => rfl
 have u0_ := He.glo_ok X G (c.fact 15 (f := .glo "_law_same") rfl)
 have qWR : ∀ i, DFW P w K mg base "_law_same" i 2 (Tl.FnR_same i) := fun i => by
  induction i with
  | zero => exact dfw_zero u0_ FZsame.kp n0_
  | succ i ih => exact dfw_of FZsame scZsame u0_ n0_ (bWZsame (k := i) h_bool h_isinstance h_int h_str h_tuple h_list h_len h_range ih)
 have qWZsame : DFW P w K mg base "_law_same" 40 2 FnZsame := (qWR 40).imp leZsame
 have qZcell : DF P w K mg base "_law_cell" 2 2 FnZcell := df_of FZcell scZcell (He.glo_ok X G (c.fact 8 (f := .glo "_law_cell") rfl)) (FunD.bindsN (ps := ["_law_script", "_law_k"]) FZcell fun _ _ _ _ _ _ us hl => match us, hl with | [_, _], _ => rfl) (bZcell (k := 0) h_len)
 have qZsource : DF P w K mg base "_law_source" 2 1 FnZsource := df_of FZsource scZsource (He.glo_ok X G (c.fact 9 (f := .glo "_law_source") rfl)) (FunD.bindsN (ps := ["_law_cell_here"]) FZsource fun _ _ _ _ _ _ us hl => match us, hl with | [_], _ => rfl) (bZsource (k := 0) )
 have qZdraw : DF P w K mg base "_law_draw" 2 2 FnZdraw := df_of FZdraw scZdraw (He.glo_ok X G (c.fact 10 (f := .glo "_law_draw") rfl)) (FunD.bindsN (ps := ["_law_source_here", "_law_limit"]) FZdraw fun _ _ _ _ _ _ us hl => match us, hl with | [_, _], _ => rfl) (bZdraw (k := 0) h_int)
 have qZsizes : DF P w K mg base "_law_sizes" 4 4 FnZsizes := df_of FZsizes scZsizes (He.glo_ok X G (c.fact 12 (f := .glo "_law_sizes") rfl)) (FunD.bindsN (ps := ["_law_source_here", "_law_parties", "_law_standings", "_law_cap"]) FZsizes fun _ _ _ _ _ _ us hl => match us, hl with | [_, _, _, _], _ => rfl) (bZsizes (k := 2) h_int (qZdraw.up (by decide)) h_min h_range h_len)
 have qZfull : DF P w K mg base "_law_full" 2 1 FnZfull := df_of FZfull scZfull (He.glo_ok X G (c.fact 11 (f := .glo "_law_full") rfl)) (FunD.bindsN (ps := ["_law_sizes_here"]) FZfull fun _ _ _ _ _ _ us hl => match us, hl with | [_], _ => rfl) (bZfull (k := 0) h_list h_range)
 have qZsplit : DF P w K mg base "_law_split" 4 2 FnZsplit := df_of FZsplit scZsplit (He.glo_ok X G (c.fact 13 (f := .glo "_law_split") rfl)) (FunD.bindsN (ps := ["_law_side", "_law_source_here"]) FZsplit fun _ _ _ _ _ _ us hl => match us, hl with | [_, _], _ => rfl) (bZsplit (k := 2) (qZdraw.up (by decide)) h_len h_range)
 have n7_ := FunD.bindsN (ps := ["_law_sides", "_law_source_here", "_law_ends"]) FZtree fun _ _ _ _ _ _ us hl => match us, hl with | [_, _, _], _ => rfl
 have qZtree_0 : DF P w K mg base "_law_tree" 0 3 (FnZtree 0) := ⟨fun _ _ z => (nomatch z), _, _, _, He.glo_ok X G (c.fact 14 (f := .glo "_law_tree") rfl), FZtree.kp, n7_, ⟨fun vs H Q E ⟨_, _, _, _, _, _, _, z, _⟩ => (nomatch z), fun A outer s H args us vs Q E _ _ _ _ ⟨_, _, _, _, _, _, _, z, _⟩ => (nomatch z)⟩⟩
 have u7_ := He.glo_ok X G (c.fact 14 (f := .glo "_law_tree") rfl)
 have qZtree_1 : DF P w K mg base "_law_tree" 6 3 (FnZtree 1) := df_of FZtree scZtree u7_ n7_ (bZtree (k := 4) h_len h_range (qZdraw.up (by decide)) (qZsplit.up (by decide)) (qZtree_0.up (by decide)) h_tuple)
 have qZtree_2 : DF P w K mg base "_law_tree" 8 3 (FnZtree 2) := df_of FZtree scZtree u7_ n7_ (bZtree (k := 6) h_len h_range (qZdraw.up (by decide)) (qZsplit.up (by decide)) (qZtree_1.up (by decide)) h_tuple)
 have qZtree_3 : DF P w K mg base "_law_tree" 10 3 (FnZtree 3) := df_of FZtree scZtree u7_ n7_ (bZtree (k := 8) h_len h_range (qZdraw.up (by decide)) (qZsplit.up (by decide)) (qZtree_2.up (by decide)) h_tuple)
 have qZtree_4 : DF P w K mg base "_law_tree" 12 3 (FnZtree 4) := df_of FZtree scZtree u7_ n7_ (bZtree (k := 10) h_len h_range (qZdraw.up (by decide)) (qZsplit.up (by decide)) (qZtree_3.up (by decide)) h_tuple)
 have qZtree_5 : DF P w K mg base "_law_tree" 14 3 (FnZtree 5) := df_of FZtree scZtree u7_ n7_ (bZtree (k := 12) h_len h_range (qZdraw.up (by decide)) (qZsplit.up (by decide)) (qZtree_4.up (by decide)) h_tuple)
 have qZtree_6 : DF P w K mg base "_law_tree" 16 3 (FnZtree 6) := df_of FZtree scZtree u7_ n7_ (bZtree (k := 14) h_len h_range (qZdraw.up (by decide)) (qZsplit.up (by decide)) (qZtree_5.up (by decide)) h_tuple)
 have qZtree_7 : DF P w K mg base "_law_tree" 18 3 (FnZtree 7) := df_of FZtree scZtree u7_ n7_ (bZtree (k := 16) h_len h_range (qZdraw.up (by decide)) (qZsplit.up (by decide)) (qZtree_6.up (by decide)) h_tuple)
 have qZtree_8 : DF P w K mg base "_law_tree" 20 3 (FnZtree 8) := df_of FZtree scZtree u7_ n7_ (bZtree (k := 18) h_len h_range (qZdraw.up (by decide)) (qZsplit.up (by decide)) (qZtree_7.up (by decide)) h_tuple)
 have qZtree_9 : DF P w K mg base "_law_tree" 22 3 (FnZtree 9) := df_of FZtree scZtree u7_ n7_ (bZtree (k := 20) h_len h_range (qZdraw.up (by decide)) (qZsplit.up (by decide)) (qZtree_8.up (by decide)) h_tuple)
 have q_is_integer : DF P w K mg base "is_integer" 2 1 Fn_is_integer := df_of F_is_integer sc_is_integer (He.glo_ok X G (c.fact 1 (f := .glo "is_integer") rfl)) (FunD.bindsN (ps := ["value"]) F_is_integer fun _ _ _ _ _ _ us hl => match us, hl with | [_], _ => rfl) (b_is_integer (k := 0) h_int h_isinstance h_bool)
 have q_is_number : DF P w K mg base "is_number" 4 1 Fn_is_number := df_of F_is_number sc_is_number (He.glo_ok X G (c.fact 2 (f := .glo "is_number") rfl)) (FunD.bindsN (ps := ["value"]) F_is_number fun _ _ _ _ _ _ us hl => match us, hl with | [_], _ => rfl) (b_is_number (k := 2) (q_is_integer.up (by decide)))
 have q_ascending : DF P w K mg base "ascending" 2 1 Fn_ascending := df_of F_ascending sc_ascending (He.glo_ok X G (c.fact 3 (f := .glo "ascending") rfl)) (FunD.bindsN (ps := ["numbers"]) F_ascending fun _ _ _ _ _ _ us hl => match us, hl with | [_], _ => rfl) (b_ascending (k := 0) h_int h_sorted h_tuple)
 have q_checked_cells : DF P w K mg base "checked_cells" 6 2 Fn_checked_cells := df_of F_checked_cells sc_checked_cells (He.glo_ok X G (c.fact 5 (f := .glo "checked_cells") rfl)) (FunD.bindsN (ps := ["branches", "path"]) F_checked_cells fun _ _ _ _ _ _ us hl => match us, hl with | [_, _], _ => rfl) (b_checked_cells (k := 4) (q_is_number.up (by decide)) (q_ascending.up (by decide)))
 have qR_checked : ∀ i, DF P w K mg base "checked" (6 + 2 * i) 2 (Tl.FnR_checked Fn_checked_cells i) := fun i => by
  induction i with
  | zero => exact ⟨fun _ _ z => (nomatch z), _, _, _, He.glo_ok X G (c.fact 4 (f := .glo "checked") rfl), F_checked.kp, (FunD.bindsN (ps := ["rows", "path"]) F_checked fun _ _ _ _ _ _ us hl => match us, hl with | [_, _], _ => rfl), ⟨fun vs H Q E ⟨_, _, _, _, _, _, _, z, _⟩ => (nomatch z), fun A outer s H args us vs Q E _ _ _ _ ⟨_, _, _, _, _, _, _, z, _⟩ => (nomatch z)⟩⟩
  | succ i ih => exact df_of F_checked sc_checked (He.glo_ok X G (c.fact 4 (f := .glo "checked") rfl)) (FunD.bindsN (ps := ["rows", "path"]) F_checked fun _ _ _ _ _ _ us hl => match us, hl with | [_, _], _ => rfl) (b_checked (k := 6 + 2 * i) h_int h_isinstance h_bool (q_checked_cells.up (by omega)) h_enumerate (ih.up (by omega)) h_tuple)
 have q_checked : DF P w K mg base "checked" (6 + 2 * 12) 2 Fn_checked := (qR_checked 12).imp le_checked
 have n13_ := FunD.bindsN (ps := ["rows"]) F_length_of fun _ _ _ _ _ _ us hl => match us, hl with | [_], _ => rfl
 have q_length_of_0 : DF P w K mg base "length_of" 0 1 (Fn_length_of 0) := ⟨fun _ _ z => (nomatch z), _, _, _, He.glo_ok X G (c.fact 6 (f := .glo "length_of") rfl), F_length_of.kp, n13_, ⟨fun vs H Q E ⟨_, _, _, _, _, _, _, z, _⟩ => (nomatch z), fun A outer s H args us vs Q E _ _ _ _ ⟨_, _, _, _, _, _, _, z, _⟩ => (nomatch z)⟩⟩
 have u13_ := He.glo_ok X G (c.fact 6 (f := .glo "length_of") rfl)
 have q_length_of_1 : DF P w K mg base "length_of" 2 1 (Fn_length_of 1) := df_of F_length_of sc_length_of u13_ n13_ (b_length_of (k := 0) (q_length_of_0.up (by decide)) h_int h_max)
 have q_length_of_2 : DF P w K mg base "length_of" 4 1 (Fn_length_of 2) := df_of F_length_of sc_length_of u13_ n13_ (b_length_of (k := 2) (q_length_of_1.up (by decide)) h_int h_max)
 have q_length_of_3 : DF P w K mg base "length_of" 6 1 (Fn_length_of 3) := df_of F_length_of sc_length_of u13_ n13_ (b_length_of (k := 4) (q_length_of_2.up (by decide)) h_int h_max)
 have q_length_of_4 : DF P w K mg base "length_of" 8 1 (Fn_length_of 4) := df_of F_length_of sc_length_of u13_ n13_ (b_length_of (k := 6) (q_length_of_3.up (by decide)) h_int h_max)
 have q_length_of_5 : DF P w K mg base "length_of" 10 1 (Fn_length_of 5) := df_of F_length_of sc_length_of u13_ n13_ (b_length_of (k := 8) (q_length_of_4.up (by decide)) h_int h_max)
 have q_length_of_6 : DF P w K mg base "length_of" 12 1 (Fn_length_of 6) := df_of F_length_of sc_length_of u13_ n13_ (b_length_of (k := 10) (q_length_of_5.up (by decide)) h_int h_max)
 have q_length_of_7 : DF P w K mg base "length_of" 14 1 (Fn_length_of 7) := df_of F_length_of sc_length_of u13_ n13_ (b_length_of (k := 12) (q_length_of_6.up (by decide)) h_int h_max)
 have q_length_of_8 : DF P w K mg base "length_of" 16 1 (Fn_length_of 8) := df_of F_length_of sc_length_of u13_ n13_ (b_length_of (k := 14) (q_length_of_7.up (by decide)) h_int h_max)
 have q_length_of_9 : DF P w K mg base "length_of" 18 1 (Fn_length_of 9) := df_of F_length_of sc_length_of u13_ n13_ (b_length_of (k := 16) (q_length_of_8.up (by decide)) h_int h_max)
 have qc_Tree_DinitD : DM P w K mg base "Tree" 32 2 Fn_Tree_DinitD := dm_of (x := "Tree") F_Tree_DinitD sc_Tree_DinitD (He.glo_ok X G (c.fact 28 (f := .glo "Tree") rfl)) (He.mkr_ok (c.fact 31 (f := .mkr "Tree") rfl)) (FunD.bindsN (ps := ["self", "rows"]) F_Tree_DinitD fun _ _ _ _ _ _ us hl => match us, hl with | [_, _], _ => rfl) (b_Tree_DinitD (k := 30) (q_checked.up (by decide)) hf_rows (q_length_of_9.up (by decide)) hf_length)
 have n15_ := FunD.bindsN (ps := ["_law_rows", "_law_combo", "_law_path"]) FZway fun _ _ _ _ _ _ us hl => match us, hl with | [_, _, _], _ => rfl
 have qZway_0 : DF P w K mg base "_law_way" 0 3 (FnZway 0) := ⟨fun _ _ z => (nomatch z), _, _, _, He.glo_ok X G (c.fact 16 (f := .glo "_law_way") rfl), FZway.kp, n15_, ⟨fun vs H Q E ⟨_, _, _, _, _, _, _, z, _⟩ => (nomatch z), fun A outer s H args us vs Q E _ _ _ _ ⟨_, _, _, _, _, _, _, z, _⟩ => (nomatch z)⟩⟩
 have u15_ := He.glo_ok X G (c.fact 16 (f := .glo "_law_way") rfl)
 have qZway_1 : DF P w K mg base "_law_way" 2 3 (FnZway 1) := df_of FZway scZway u15_ n15_ (bZway (k := 0) h_len h_range h_bool h_isinstance (qZway_0.up (by decide)))
 have qZway_2 : DF P w K mg base "_law_way" 4 3 (FnZway 2) := df_of FZway scZway u15_ n15_ (bZway (k := 2) h_len h_range h_bool h_isinstance (qZway_1.up (by decide)))
 have qZway_3 : DF P w K mg base "_law_way" 6 3 (FnZway 3) := df_of FZway scZway u15_ n15_ (bZway (k := 4) h_len h_range h_bool h_isinstance (qZway_2.up (by decide)))
 have qZway_4 : DF P w K mg base "_law_way" 8 3 (FnZway 4) := df_of FZway scZway u15_ n15_ (bZway (k := 6) h_len h_range h_bool h_isinstance (qZway_3.up (by decide)))
 have qZway_5 : DF P w K mg base "_law_way" 10 3 (FnZway 5) := df_of FZway scZway u15_ n15_ (bZway (k := 8) h_len h_range h_bool h_isinstance (qZway_4.up (by decide)))
 have qZway_6 : DF P w K mg base "_law_way" 12 3 (FnZway 6) := df_of FZway scZway u15_ n15_ (bZway (k := 10) h_len h_range h_bool h_isinstance (qZway_5.up (by decide)))
 have qZway_7 : DF P w K mg base "_law_way" 14 3 (FnZway 7) := df_of FZway scZway u15_ n15_ (bZway (k := 12) h_len h_range h_bool h_isinstance (qZway_6.up (by decide)))
 have qZway_8 : DF P w K mg base "_law_way" 16 3 (FnZway 8) := df_of FZway scZway u15_ n15_ (bZway (k := 14) h_len h_range h_bool h_isinstance (qZway_7.up (by decide)))
 have qZway_9 : DF P w K mg base "_law_way" 18 3 (FnZway 9) := df_of FZway scZway u15_ n15_ (bZway (k := 16) h_len h_range h_bool h_isinstance (qZway_8.up (by decide)))
 have q_branch_of : DF P w K mg base "branch_of" 6 2 Fn_branch_of := df_of F_branch_of sc_branch_of (He.glo_ok X G (c.fact 7 (f := .glo "branch_of") rfl)) (FunD.bindsN (ps := ["rows", "standing"]) F_branch_of fun _ _ _ _ _ _ us hl => match us, hl with | [_, _], _ => rfl) (b_branch_of (k := 4) h_enumerate (q_is_number.up (by decide)))
 have qd_Tree_DcallD_x : DDun P w K mg base "Tree" "__call__" 8 2 Fn_Tree_DcallD_x := ddun_of (x := "Tree") (m := "__call__") F_Tree_DcallD sc_Tree_DcallD_x (He.cls_ok (c.fact 29 (f := .cls "Tree") rfl)) (He.meth_ok (c.fact 32 (f := .meth "Tree" "__call__") rfl)) (FunD.bindsN (ps := ["self", "combination"]) F_Tree_DcallD fun _ _ _ _ _ _ us hl => match us, hl with | [_, _], _ => rfl) (b_Tree_DcallD_x (k := 6) hf_rows (q_branch_of.up (by decide)) (raF_up hraF_BadAnswer (by decide)))
 have qRZsame : ∀ i, DF P w K mg base "_law_same" (0 + 2 * i) 2 (Tl.FnR_same i) := fun i => by
  induction i with
  | zero => exact ⟨fun _ _ z => (nomatch z), _, _, _, He.glo_ok X G (c.fact 15 (f := .glo "_law_same") rfl), FZsame.kp, n0_, ⟨fun vs H Q E ⟨_, _, _, _, _, _, _, z, _⟩ => (nomatch z), fun A outer s H args us vs Q E _ _ _ _ ⟨_, _, _, _, _, _, _, z, _⟩ => (nomatch z)⟩⟩
  | succ i ih => exact df_of FZsame scZsame u0_ n0_ (bZsame (k := 0 + 2 * i) h_bool h_isinstance h_int h_str h_tuple h_list h_len h_range (ih.up (by omega)))
 have qZsame : DF P w K mg base "_law_same" (0 + 2 * 40) 2 FnZsame := (qRZsame 40).imp leZsame
 have qZrefused : DF P w K mg base "_law_refused" 42 3 FnZrefused := df_of FZrefused scZrefused (He.glo_ok X G (c.fact 17 (f := .glo "_law_refused") rfl)) (FunD.bindsN (ps := ["_law_tree_here", "_law_combo", "_law_path"]) FZrefused fun _ _ _ _ _ _ us hl => match us, hl with | [_, _, _], _ => rfl) (bZrefused (k := 40) (qd_Tree_DcallD_x.up (by decide)) hg_BadAnswer hX_BadAnswer hXf_BadAnswer hXn_BadAnswer keepB_same h_isinstance hT_BadAnswer hg_BadRule hg_BadBox hg_BadTree hg_BadTurn hg_BadRow hg_AskError h_ValueError (qWZsame.up (by decide)))
 have qd_Tree_DcallD : DDun P w K mg base "Tree" "__call__" 8 2 Fn_Tree_DcallD := ddun_of (x := "Tree") (m := "__call__") F_Tree_DcallD sc_Tree_DcallD (He.cls_ok (c.fact 29 (f := .cls "Tree") rfl)) (He.meth_ok (c.fact 32 (f := .meth "Tree" "__call__") rfl)) (FunD.bindsN (ps := ["self", "combination"]) F_Tree_DcallD fun _ _ _ _ _ _ us hl => match us, hl with | [_, _], _ => rfl) (b_Tree_DcallD (k := 6) hf_rows (q_branch_of.up (by decide)))
 have body : FnOk P w K mg base (L2N.CX P w) 82 f fd ["_law_script"] (spD K 1 (mkFn 1 N_law.length _)) := fn_data F sc_law (b_law (k := 80) (qZcell.up (by decide)) (qZsource.up (by decide)) (qZsizes.up (by decide)) (qZfull.up (by decide)) (qZtree_9.up (by decide)) (qc_Tree_DinitD.up (by decide)) h_range (qZdraw.up (by decide)) (qZway_9.up (by decide)) (qZrefused.up (by decide)) (qd_Tree_DcallD.up (by decide)) (qZsame.up (by decide)) hf_rows)
 exact body.imp fun vs H Q E q => spD_imp le_law q
theorem never {P : Program} {w : World} {K : PySem.W.Frag} {mg : Str → Option Value} {base : Heap} {k : Nat} {f : Addr} {fd : FuncData} {ps : List Str} {sp : Sp} (F : FnOk P w K mg base (L2N.CX P w) k f fd ps sp) : FnOk P w K mg base L2.CX0 k f fd ps (fun vs H Q _ => sp vs H Q fun _ _ _ => False) :=
 ⟨fun vs H Q E q => F.len _ _ _ _ q, fun A outer s H args us vs Q E hr he hb hv hs => codeAny_mono (F.run A outer s H args us vs Q _ hr he hb hv hs) fun r s' z => by
  cases r with
  | ok v => cases v <;> exact z
  | error e =>
   obtain ⟨_, _, _, _, _, _, _, _, _, _, _, _, z⟩ := z
   exact z.elim⟩
theorem sp_law {K : PySem.W.Frag} (H : Hp) (a : Addr) (ns : List Int) (h : SqL K H a (ns.map V.int)) : spD K 1 fn_law [.ref a] H (fun v _ => v = .bl true) fun _ _ _ => False := by
 refine ⟨⟨fun _ => none, [some (.ref a)]⟩, H, [.val (.scr ns)], _, rfl, rfl, ⟨fun _ _ z => (nomatch z), Same.refl H, fun _ _ z => (nomatch z), rfl, fun i d z => ?_, fun i d z => ?_, fun i j d e b z => ?_, fun i d z => ?_⟩, rfl, fun v G' H' _ _ k => k⟩
 · cases i with
   | zero => cases z; exact ⟨.ref a, rfl, a, rfl, h⟩
   | succ i => cases z
 · cases i <;> cases z
 · cases i <;> cases z
 · cases i <;> cases z
theorem facts {P : Program} {w : World} {K : PySem.W.Frag} {h : Heap} {mg : Str → Option Value} {f : Addr} (X : K.In h) (G : h.Ns mainGlobals mg) (hfa : mg ("law" : Str) = some (.ref f)) (ce : SaysY ocs prs fn fa exB xiL K) (hPf : ((P.main.file : Str) == PySem.Challenge.pw_plainask_k18_tree_strangers.main.file) = true) (hPs : (P.main.scope.names.lookup ("super" : Str)).isSome = false) :
  ∃ fd : FuncData, (∀ (s : Shared) (v : Value), BindsTo s fd ⟨[v], []⟩ [("_law_script", v)]) ∧ ∀ base : Heap, K.In base → base.Ns mainGlobals mg → FnOk P w K mg base L2.CX0 82 f fd ["_law_script"] (fun vs H Q _ => spD K 1 fn_law vs H Q fun _ _ _ => False) := by
 have c := ce.d
 obtain ⟨fd, F⟩ := c.def_ 18 (d := d_law) rfl
 have e := hfa.symm.trans (He.glo_ok X G (c.fact 18 (f := .glo "law") rfl))
 cases e
 have b := FunD.bindsA (ps := ["_law_script"]) F fun _ _ _ _ _ _ us hl => match us, hl with | [_], _ => rfl
 exact ⟨fd, fun s v => b s [v] rfl, fun base X2 G2 => never (all X2 G2 ce hPf hPs F)⟩
end My
open PySem PySem.W PySem.Calls PyProof.Rows
theorem PySem.Challenge.cw_plainask_k18_tree_strangers_holds : PySem.Challenge.rw_plainask_k18_tree_strangers.Holds := by
 w_on; o_law
 refine HandSHeadRun.head_any (r := OpenLaw.row PySem.Challenge.rw_plainask_k18_tree_strangers) (q := view (OpenLaw.row PySem.Challenge.rw_plainask_k18_tree_strangers).prog [30]) (H := My.hk) (ob := My.ob) (M := 8000) (loose := My.loose) (d := HandSHeadRun.topDef (OpenLaw.row PySem.Challenge.rw_plainask_k18_tree_strangers).prog 30) (kwd := []) My.ob_eq
  (by kernel_rfl) (fun s => by kernel_rfl) My.run (by kernel_rfl) (by kernel_rfl) (by kernel_rfl) (by rfl) (by first | assumption | decide +kernel) (by decide +kernel) ⟨rfl, rfl, rfl, rfl, rfl, by decide +kernel⟩ ?hw ?hc
 case hw => w_witness2
 case hc =>
  refine L2.walk_ofE (l := PySem.Challenge.rw_plainask_k18_tree_strangers) (n := 63) (k := 82) (x := "_law_script") (CX := L2.CX0) rfl (by decide) (by kernel_rfl) ⟨rfl, by decide, by decide⟩ ?F (fun _ _ _ _ z => z)
  intro w mg fa h Y G hmg0
  obtain ⟨K, KX, c⟩ := Y
  have hmg : mg ("law" : PySem.Str) = some (.ref fa) := by
   have e : (HandSHeadRun.topDef (OpenLaw.row PySem.Challenge.rw_plainask_k18_tree_strangers).prog 30).name = ("law" : PySem.Str) := by kernel_rfl
   rw [← e]
   exact hmg0
  obtain ⟨fd, hb, hF⟩ := My.facts (P := (PySem.Challenge.rw_plainask_k18_tree_strangers).prog) (w := w) KX G hmg c (by kernel_rfl) (by kernel_rfl)
  exact ⟨K, fd, (fun vs H Q _ => Dl.spD K 1 My.fn_law vs H Q fun _ _ _ => False), KX, hb, fun H a ns hl _ hS => My.sp_law H a ns hS, hF⟩
