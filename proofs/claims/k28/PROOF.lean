import PyProof.Rows.All
import Wide.All
import OpenK.AllK
import Wide.FinOn
import HandS.Head0
import HandS.Head1
import HandS.Head2
import HandS.HeadEnd
import HandS.HeadHook1
import HandS.HeadHook2
import KE.KSuper
import HandS.Words
import HandS.Head3
import HandS.ForMost
import HandS.Exc
import HandS.ExcOwn
import HandS.ExcInit
import HandS.TryOnly
import HandS.TryMany
import HandS.WordsExc
import KE.KeyNested
import KE.KDictWalk
import HandS.TupAny
import HandS.Deep
import HandS.CallSlots
import HandS.Defaults
import HandS.Comp
import HandS.Lambda
import HandS.IsInst
import HandS.ExcIs
import HandS.ClsMeth
import HandS.Star
import HandS.Text
import HandS.Strs
import HandS.FStr
import KE.KUnpackStar
import PyProof.EnumMake
import HandS.More
import PyProof.AutoIntOps
import HandS.ExcSuper
import KE.KExcIs
import HandS.ExcField
import HandS.HotCalls
import HandS.SetKeys
import HandS.OwnIter
import HandS.IterNext
import HandS.IterVal
import HandS.ExcInitHot
import HandS.ExcValue
import HandS.Zip
import HandS.Property
import KE.KOpsOwn
import HandS.GenBody
import HandS.GenList
import KE.KxField
import HandS.StrMore
import KE.KTupSum
import HandS.Gcd
import KE.KMathGC
import KE.KDictDisplayH
import KE.KDictCopyH
import HandS.DictComp
import KE.DatumIndex
import KE.DatumOrd
import KE.KOwnIter
import HandS.TupLen
import HandS.Conv
import PySem.Challenge.RW_untoldrule_k28_formulas_have_numbers
set_option Elab.async false
set_option linter.all false
set_option maxRecDepth 100000
set_option maxHeartbeats 0
section
namespace Zl
open PySem PySem.Spec PyProof.Rows L2
abbrev mkS (s : List Nat) : Str := ⟨s.toArray⟩
def reachA (gt : Addr → Option Obj) : Nat → List Addr → Nat → List Addr → List Addr
 | 0, _, _, acc => acc
 | _ + 1, [], _, acc => acc
 | n + 1, a :: r, m, acc => if Nat.testBit m a then reachA gt n r m acc else match gt a with
   | some o => reachA gt n (He.refsD o ++ r) (m ||| (1 <<< a)) (a :: acc)
   | none => reachA gt n r m acc
structure DefZ where
 ad : PySem.W.Frag → Addr
 name : Str
 qual : Str
 params : Arguments
 body : List Stmt
 scope : Scope
def fnWA (K : PySem.W.Frag) (a : Addr) : He.FnW := match K.lookup a with
 | some ⟨_, _, .func fd, _⟩ => some (fd.name, fd.qualname, fd.params, fd.body, fd.scope, fd.globals, fd.closure, fd.builtins)
 | _ => none
def DefZ.val (d : DefZ) : He.FnW := some (d.name, d.qual, d.params, .stmts d.body, d.scope, mainGlobals, [], builtinsNs)
def DefZ.ok (K : PySem.W.Frag) (d : DefZ) : Bool := PySem.W.keepIn K (.ref (d.ad K)) && (match K.lookup (d.ad K) with
 | some ⟨_, _, .func fd, _⟩ => PySem.W.codeIn K fd.code d.qual && (match fd.defaults with
   | .none => true
   | _ => false)
 | _ => false)
abbrev Exs : Type := List (PySem.W.Frag → Bool)
def xExcC (x : Str) (K : PySem.W.Frag) : Bool := He.eqO (PySem.W.findIn K (.ref (He.ga K x)) "__getattribute__") (some (some (.builtin "BaseException.__getattribute__"))) && (He.eqO (PySem.W.findIn K (.ref (He.ga K x)) "__getattr__") (some none) &&
 (decide (PySem.W.subIn K (.ref (He.ga K x)) (.type "BaseException") = some true) && (PySem.W.hasDictIn K (He.ga K x) && (He.eqO (PySem.W.findIn K (.ref (He.ga K x)) "__class__") (some (some (.builtin "object.__class__"))) &&
 (He.eqO (PySem.W.specialIn K (.builtin "object.__class__") "__get__") (some (some (.builtin "getset_descriptor.__get__"))) && (decide (PySem.W.takesIn K (.builtin "object.__class__") = some true) && decide (PySem.W.mroIn K (He.ga K x) (.type "object") = some true)))))))
def xKit (x y : Str) (b : Bool) (K : PySem.W.Frag) : Bool := decide (PySem.W.kitOne K (.ref (He.ga K x)) (.ref (He.ga K y)) = some b)
def xKitT (x : Str) (T : String) (b : Bool) (K : PySem.W.Frag) : Bool := decide (PySem.W.kitOne K (.ref (He.ga K x)) (.type T) = some b)
structure DefC where
 ad : PySem.W.Frag → Addr
 cl : PySem.W.Frag → Addr
 name : Str
 qual : Str
 params : Arguments
 body : List Stmt
 scope : Scope
 file : Str
def fnWC (K : PySem.W.Frag) (a : Addr) : He.FnW := match K.lookup a with
 | some ⟨_, _, .func fd, _⟩ => some (fd.name, fd.qualname, fd.params, fd.body, fd.scope, fd.globals, fd.closure.map fun p => (p.1, 0), fd.builtins)
 | _ => none
def DefC.val (d : DefC) : He.FnW := some (d.name, d.qual, d.params, .stmts d.body, d.scope, mainGlobals, [(("__class__" : Str), 0)], builtinsNs)
def fileB (K : PySem.W.Frag) (cd : Value) (file : Str) : Bool := match cd with
 | .ref c => (match K.lookup c with
   | some ⟨_, _, .fields vs, _⟩ => (match (vs[2]? : Option Value) with
     | some (Value.str z _) => decide (z = file)
     | _ => false)
   | _ => false)
 | _ => false
def cellB (K : PySem.W.Frag) (cc D : Addr) : Bool := match K.lookup cc with
 | some ⟨_, _, .cell (some (.ref D')), _⟩ => decide (D' = D)
 | _ => false
def DefC.ok (K : PySem.W.Frag) (d : DefC) : Bool := PySem.W.keepIn K (.ref (d.ad K)) && ((PySem.W.clsIn K (d.cl K)).isSome && (match K.lookup (d.ad K) with
 | some ⟨_, _, .func fd, _⟩ => PySem.W.codeIn K fd.code d.qual && (fileB K fd.code d.file && ((match fd.defaults with
   | .none => true
   | _ => false) && (match fd.closure with
   | [(_, cc)] => cellB K cc (d.cl K)
   | _ => false)))
 | _ => false))
def obsS (fa : List He.Fa) (ex : Exs) (fn : List He.DefD) (st : List DefZ) (su : List DefC) (K : PySem.W.Frag) : He.AlD :=
 ((fa.all fun f => f.ok K) && ((ex.all fun f => f K) && ((fn.all fun d => d.ok K) && ((st.all fun d => d.ok K) && su.all fun d => d.ok K))), ((fn.map fun d => He.fnW K d.at_) ++ st.map fun d => fnWA K (d.ad K)) ++ su.map fun d => fnWC K (d.ad K))
def valS (fn : List He.DefD) (st : List DefZ) (su : List DefC) : He.AlD := (true, (fn.map He.DefD.val ++ st.map DefZ.val) ++ su.map DefC.val)
def SaysS (fa : List He.Fa) (ex : Exs) (fn : List He.DefD) (st : List DefZ) (su : List DefC) (K : PySem.W.Frag) : Prop := obsS fa ex fn st su K = valS fn st su
def obsSG (n : Nat) (fa : List He.Fa) (ex : Exs) (fn : List He.DefD) (st : List DefZ) (su : List DefC) (gt : Addr → Option Obj) : He.AlD := obsS fa ex fn st su (He.frG gt (reachA gt n [mainGlobals, cStatics] 0 []))
def hookS (n : Nat) (fa : List He.Fa) (ex : Exs) (fn : List He.DefD) (st : List DefZ) (su : List DefC) : PySem.W.Hook where
 α := He.AlD
 obs := fun s => obsSG n fa ex fn st su s.heap.get?
 val := fun _ => valS fn st su
 says := fun _ h => ∃ K : PySem.W.Frag, K.In h ∧ SaysS fa ex fn st su K
 of := fun _ _ e => ⟨_, He.frG_in, e⟩
 keeps := fun _ _ _ ⟨K, hK, c⟩ k => ⟨K, PySem.W.Frag.In.keeps hK k, c⟩
theorem obsSG_eq {n : Nat} {fa : List He.Fa} {ex : Exs} {fn : List He.DefD} {st : List DefZ} {su : List DefC} {gt : Addr → Option Obj} {s : Shared} (h : ∀ a, gt a = s.heap.get? a) : obsSG n fa ex fn st su gt = (hookS n fa ex fn st su).obs s := by
 have e : gt = s.heap.get? := funext h
 rw [e]
 all_goals rfl
abbrev VEI : Value := .builtin "ValueError.__init__"
def xOex (x : Str) (K : PySem.W.Frag) : Bool := (match K.lookup (He.ga K x) with
 | some ⟨.type "type", _, .cls cd, sl⟩ => (match cd.mro, sl.toList with
   | .ref C' :: bm, [_, _, _, _, some (.builtin n), _] => decide (C' = He.ga K x) && (decide (n = "ValueError.__new__") && (!cd.hasDel && (cd.hasDict && PySem.HandSPX.refsVE bm)))
   | _, _ => false)
 | _ => false) && (He.eqO (PySem.W.findIn K (.ref (He.ga K x)) "__setattr__") (some (some (.builtin "object.__setattr__"))) && (decide (PySem.W.subIn K (.ref (He.ga K x)) (.type "BaseException") = some true) && (decide (PySem.W.typeIn K (.ref (He.ga K x)) = some (.type "type")) && PySem.W.keepIn K (.ref (He.ga K x)))))
def xSupV (x : Str) (K : PySem.W.Frag) : Bool := decide (PySem.W.mroIn K (He.ga K x) (.ref (He.ga K x)) = some true) && (He.eqO (PySem.W.ks_superIn K (He.ga K x) (He.ga K x) "__init__") (some (some VEI)) && (decide (PySem.W.mroIn K (He.ga K x) (.type "ValueError") = some true) && (He.eqO (PySem.W.nsIn K cStatics "thirdparty.any") (some none) && xOex x K)))
def xIni (x : Str) (K : PySem.W.Frag) : Bool := He.eqO (PySem.W.findIn K (.ref (He.ga K x)) "__init__") (some (some (.ref (He.fAd K (x, some "__init__"))))) && decide (PySem.W.typeIn K (.ref (He.fAd K (x, some "__init__"))) = some (.type "function"))
def xOp (x m : Str) (K : PySem.W.Frag) : Bool := PySem.W.fnIn K (He.ma K (He.ga K x) m) && PySem.W.noSeq K (He.ga K x)
def clsStm (s : Stmt) (j : Nat) : Stmt := match s with
 | .ClassDef _ _ _ b _ _ _ _ _ _ _ => b.getD j (.Pass ⟨0, 0, 0, 0⟩)
 | _ => .Pass ⟨0, 0, 0, 0⟩
end Zl
end
section
namespace Zl
open PySem PySem.Spec PyProof.Rows L2
abbrev obG (n : Nat) (fa : List He.Fa) (ex : Exs) (fn : List He.DefD) (st : List DefZ) (su : List DefC) (s : PySem.W.SharedT) : He.AlD := obsSG n fa ex fn st su (HandSHeadRun.getT s)
theorem obs_join2 {fa : List He.Fa} {ex : Exs} {fn1 fn2 : List He.DefD} {st : List DefZ} {su : List DefC} {K : PySem.W.Frag} (h1 : obsS fa [] fn1 [] [] K = valS fn1 [] []) (h2 : obsS [] ex fn2 st su K = valS fn2 st su) : obsS fa ex (fn1 ++ fn2) st su K = valS (fn1 ++ fn2) st su := by
 unfold obsS valS at *
 simp only [List.all_nil, List.map_nil, List.append_nil, List.nil_append, Bool.true_and, Bool.and_true, Prod.mk.injEq, and_true] at h1 h2
 obtain ⟨h1, h1'⟩ := h1
 obtain ⟨h2, h2'⟩ := h2
 simp only [Bool.and_eq_true] at h1 h2
 simp only [List.all_append, List.map_append, h1.1, h1.2, h2.1, h2.2.1, h2.2.2.1, h2.2.2.2, Bool.true_and, Bool.and_true, List.append_assoc, Prod.mk.injEq, true_and]
 rw [List.append_assoc] at h2'
 rw [h1', h2', List.append_assoc]
end Zl
end
section
namespace Zl
open PySem PySem.Spec PyProof.Rows L2
open HandSHeadRun PySem.W in
def RunS (r : PySem.W.OpenRow) (q : Program) (M : Nat) (loose : List Str) (w : World) : Prop :=
 ∀ os : OsState, (endF (stepQ (denQ tabQ) r.prog w) M r.prog w os).map (fun s => (looksF r.prog (boot_heap w.params) s.abs, HandSHeadRun.seenQ q loose (importedModules r.prog.main.body) (fun s => xlAt q [] s && recOk r.toRowW.records s) s.abs)) = some (true, openGood q loose)
open HandSHeadRun PySem.W in
def RunO (r : PySem.W.OpenRow) (n M : Nat) (w : World) (fa : List He.Fa) (ex : Exs) (fn : List He.DefD) (st : List DefZ) (su : List DefC) : Prop :=
 ∀ os : OsState, (endF (stepQ (denQ tabQ) r.prog w) M r.prog w os).map (fun s => obG n fa ex fn st su s) = some ((hookS n fa ex fn st su).val w)
theorem run_join3 {r : PySem.W.OpenRow} {q : Program} {n M : Nat} {loose : List Str} {w : World} {fa : List He.Fa} {ex : Exs} {fn1 fn2 : List He.DefD} {st : List DefZ} {su : List DefC}
   (h0 : RunS r q M loose w) (h1 : RunO r n M w fa [] fn1 [] []) (h2 : RunO r n M w [] ex fn2 st su) :
   HandSHeadRun.RunEq r q (hookS n fa ex (fn1 ++ fn2) st su) (obG n fa ex (fn1 ++ fn2) st su) M loose w := by
 intro os
 have a0 := h0 os
 have a1 := h1 os
 have a2 := h2 os
 revert a0 a1 a2
 generalize HandSHeadRun.endF (HandSHeadRun.stepQ (HandSHeadRun.denQ HandSHeadRun.tabQ) r.prog w) M r.prog w os = Y
 intro a0 a1 a2
 cases Y with
 | none => cases a0
 | some s =>
   obtain ⟨l1, q1⟩ := Prod.mk.inj (Option.some.inj a0)
   exact congrArg some (Prod.ext l1 (Prod.ext q1 (obs_join2 (Option.some.inj a1) (Option.some.inj a2))))
open HandSHeadRun PySem.W in
def RunSI (r : PySem.W.OpenRow) (q : Program) (M : Nat) (loose : List Str) (w : World) : Prop :=
 (wholeF (fun p => stepQ (denQ tabQ) p w) fenceQ M r.prog).map (fun x => (looksF r.prog x.1.heap x.2.abs, HandSHeadRun.seenQ q loose (importedModules r.prog.main.body) (fun s => xlAt q [] s && recOk r.toRowW.records s) x.2.abs)) = some (true, openGood q loose)
open HandSHeadRun PySem.W in
def RunOI (r : PySem.W.OpenRow) (n M : Nat) (w : World) (fa : List He.Fa) (ex : Exs) (fn : List He.DefD) (st : List DefZ) (su : List DefC) : Prop :=
 (wholeF (fun p => stepQ (denQ tabQ) p w) fenceQ M r.prog).map (fun x => obG n fa ex fn st su x.2) = some ((hookS n fa ex fn st su).val w)
end Zl
end
section
namespace Zl
open PySem PySem.Spec PyProof.Rows L2
def top (i : Nat) : Stmt := PySem.Challenge.pw_untoldrule_k28_formulas_have_numbers.main.body.getD i (.Pass ⟨0, 0, 0, 0⟩)
abbrev s_law_mixed : Stmt := top 7
abbrev s_law_pool : Stmt := top 8
abbrev s_law_draw : Stmt := top 9
abbrev s_law_names : Stmt := top 10
abbrev s_Formulas_init : Stmt := clsStm (top 4) 0
abbrev s_law_due : Stmt := top 14
abbrev s_Formulas_apply : Stmt := clsStm (top 4) 2
abbrev s_Formulas_call : Stmt := clsStm (top 4) 1
abbrev s_law_called : Stmt := top 13
abbrev s_law_is_number : Stmt := top 6
abbrev s_Formulas_rows : Stmt := clsStm (top 4) 3
abbrev s_law_same : Stmt := top 11
abbrev s_law_same_rows : Stmt := top 12
abbrev s_law : Stmt := top 15
def d_law_mixed : He.DefD := ⟨("_law_mixed", none), "_law_mixed", "_law_mixed", defArgs s_law_mixed, defBody s_law_mixed, defScope s_law_mixed, [], []⟩
def d_law_pool : He.DefD := ⟨("_law_pool", none), "_law_pool", "_law_pool", defArgs s_law_pool, defBody s_law_pool, defScope s_law_pool, [], []⟩
def d_law_draw : He.DefD := ⟨("_law_draw", none), "_law_draw", "_law_draw", defArgs s_law_draw, defBody s_law_draw, defScope s_law_draw, [], []⟩
def d_law_names : He.DefD := ⟨("_law_names", none), "_law_names", "_law_names", defArgs s_law_names, defBody s_law_names, defScope s_law_names, [], []⟩
def d_Formulas_init : He.DefD := ⟨("Formulas", some "__init__"), "__init__", "Formulas.__init__", defArgs s_Formulas_init, defBody s_Formulas_init, defScope s_Formulas_init, [], []⟩
def d_law_due : He.DefD := ⟨("_law_due", none), "_law_due", "_law_due", defArgs s_law_due, defBody s_law_due, defScope s_law_due, [], []⟩
def d_Formulas_apply : He.DefD := ⟨("Formulas", some "apply"), "apply", "Formulas.apply", defArgs s_Formulas_apply, defBody s_Formulas_apply, defScope s_Formulas_apply, [], []⟩
def d_Formulas_call : He.DefD := ⟨("Formulas", some "__call__"), "__call__", "Formulas.__call__", defArgs s_Formulas_call, defBody s_Formulas_call, defScope s_Formulas_call, [], []⟩
def d_law_called : He.DefD := ⟨("_law_called", none), "_law_called", "_law_called", defArgs s_law_called, defBody s_law_called, defScope s_law_called, [], []⟩
def d_law_is_number : He.DefD := ⟨("_law_is_number", none), "_law_is_number", "_law_is_number", defArgs s_law_is_number, defBody s_law_is_number, defScope s_law_is_number, [], []⟩
def d_Formulas_rows : He.DefD := ⟨("Formulas", some "rows"), "rows", "Formulas.rows", defArgs s_Formulas_rows, defBody s_Formulas_rows, defScope s_Formulas_rows, [], []⟩
def d_law_same : He.DefD := ⟨("_law_same", none), "_law_same", "_law_same", defArgs s_law_same, defBody s_law_same, defScope s_law_same, [], []⟩
def d_law_same_rows : He.DefD := ⟨("_law_same_rows", none), "_law_same_rows", "_law_same_rows", defArgs s_law_same_rows, defBody s_law_same_rows, defScope s_law_same_rows, [], []⟩
def d_law : He.DefD := ⟨("law", none), "law", "law", defArgs s_law, defBody s_law, defScope s_law, [], []⟩
abbrev s_XUnknownFormula : Stmt := clsStm (top 2) 0
def d_XUnknownFormula : DefC := ⟨fun K => He.fAd K ("UnknownFormula", some "__init__"), fun K => He.ga K "UnknownFormula", "__init__", "UnknownFormula.__init__", defArgs s_XUnknownFormula, defBody s_XUnknownFormula, defScope s_XUnknownFormula, PySem.Challenge.pw_untoldrule_k28_formulas_have_numbers.main.file⟩
def fa_1 : List He.Fa := [.free "ValueError", .free "abs", .free "bool", .free "int", .free "isinstance", .free "len", .free "list", .free "range", .free "str", .free "tuple", .cls "Formulas", .noat "Formulas" "starts", .noat "Formulas" "numbers", .glo "Formulas", .glo "UnknownFormula", .glo "WeaveError", .exm "WeaveError" "UnknownFormula" false, .exm "UnknownFormula" "UnknownFormula" true]
def fa_2 : List He.Fa := [.noat "WeaveError" "number", .noat "UnknownFormula" "number", .free "super", .glo "_law_mixed", .glo "_law_pool", .glo "_law_draw", .glo "_law_names", .mkr "Formulas", .glo "_law_due", .meth "Formulas" "apply", .meth "Formulas" "__call__", .glo "_law_called", .glo "_law_is_number", .glo "_law_same", .glo "_law_same_rows", .meth "Formulas" "rows", .glo "law"]
def fa : List He.Fa := fa_1 ++ fa_2
def exs : Exs := [xExcC "WeaveError", xExcC "UnknownFormula", xKit "WeaveError" "WeaveError" true, xKit "WeaveError" "UnknownFormula" false, xKit "UnknownFormula" "WeaveError" true, xKit "UnknownFormula" "UnknownFormula" true, xKitT "WeaveError" "ValueError" true, xKitT "UnknownFormula" "ValueError" true, xIni "UnknownFormula", xSupV "UnknownFormula", xOp "Formulas" "__call__"]
def su : List DefC := [d_XUnknownFormula]
def fn1 : List He.DefD := [d_law_mixed, d_law_pool, d_law_draw, d_law_names, d_Formulas_init, d_law_due, d_Formulas_apply]
def fn2 : List He.DefD := [d_Formulas_call, d_law_called, d_law_is_number, d_Formulas_rows, d_law_same, d_law_same_rows, d_law]
def fn : List He.DefD := fn1 ++ fn2
def st : List DefZ := []
abbrev RR : PySem.W.OpenRow := PySem.W.OpenLaw.row PySem.Challenge.rw_untoldrule_k28_formulas_have_numbers
def names : List Str := (["WeaveError", "UnknownFormula", "Formulas", "_law_is_number", "_law_mixed", "_law_pool", "_law_draw", "_law_names", "_law_same", "_law_same_rows", "_law_called", "_law_due"] : List String).map Str.ofString
abbrev hk : PySem.W.Hook := hookS 100000 fa exs fn st su
def ob (s : PySem.W.SharedT) : He.AlD := obG 100000 fa exs fn st su s
theorem ob_eq (s : PySem.W.SharedT) : ob s = hk.obs s.abs := obsSG_eq (HandSHeadRun.getT_eq s)
theorem run0 (w : World) : RunS RR (PySem.W.view RR.prog [15]) 8000 names w := by
 intro os
 kernel_rfl
theorem run1 (w : World) : RunO RR 100000 8000 w fa [] fn1 [] [] := by
 intro os
 kernel_rfl
theorem run2 (w : World) : RunO RR 100000 8000 w [] exs fn2 st su := by
 intro os
 kernel_rfl
theorem run (w : World) : HandSHeadRun.RunEq RR (PySem.W.view RR.prog [15]) hk ob 8000 names w := run_join3 (run0 w) (run1 w) (run2 w)
end Zl
end
section
namespace Zl
open PySem L2
def fnames : List Str := (["cell", "value", "line", "name", "function", "number", "position", "place", "start", "program", "lane", "names", "size", "current", "cells", "saved", "source", "local", "target", "inputs", "steps", "lanes", "tracks", "lengths", "system", "plan", "counts", "programs", "tables", "members", "found", "end", "rule", "step", "starts", "numbers", "pairs", "weave", "known", "machine", "scheduler", "beginning", "own"] : List String).map Str.ofString
def fnm (i : Nat) : Str := fnames[i]?.getD ⟨#[1114200 + i]⟩
theorem fnames_nodup : fnames.Nodup := by decide +kernel
theorem fnames_low : ∀ s ∈ fnames, ∀ c ∈ s.cps.toList, c < 1114200 := by
 have h : (fnames.all fun s => s.cps.toList.all fun c => decide (c < 1114200)) = true := by decide +kernel
 intro s hs c hc
 exact of_decide_eq_true (List.all_eq_true.mp (List.all_eq_true.mp h s hs) c hc)
theorem fnm_inj {i j : Nat} (h : fnm i = fnm j) : i = j := by
 unfold fnm at h
 cases hi : fnames[i]? with
 | some x =>
   cases hj : fnames[j]? with
   | some y =>
     rw [hi, hj] at h
     have e : x = y := h
     subst e
     obtain ⟨li, ei⟩ := List.getElem?_eq_some_iff.mp hi
     obtain ⟨lj, ej⟩ := List.getElem?_eq_some_iff.mp hj
     exact nodup_ix fnames_nodup hi hj
   | none =>
     rw [hi, hj] at h
     have e : x = (⟨#[1114200 + j]⟩ : Str) := h
     have := fnames_low x (List.mem_of_getElem? hi) (1114200 + j) (by rw [e]; simp)
     omega
 | none =>
   cases hj : fnames[j]? with
   | some y =>
     rw [hi, hj] at h
     have e : (⟨#[1114200 + i]⟩ : Str) = y := h
     have := fnames_low y (List.mem_of_getElem? hj) (1114200 + i) (by rw [← e]; simp)
     omega
   | none =>
     rw [hi, hj] at h
     have e : (⟨#[1114200 + i]⟩ : Str) = ⟨#[1114200 + j]⟩ := h
     injection e with e
     have := congrArg Array.toList e
     simp at this
     omega
abbrev cWeaveError : Nat := 0
abbrev cUnknownFormula : Nat := 14
abbrev cRead : Nat := 20
abbrev cWrite : Nat := 21
abbrev cReadWrite : Nat := 22
abbrev cFormulas : Nat := 30
abbrev f_cell : Nat := 0
abbrev f_value : Nat := 1
abbrev f_line : Nat := 2
abbrev f_name : Nat := 3
abbrev f_function : Nat := 4
abbrev f_number : Nat := 5
abbrev f_position : Nat := 6
abbrev f_place : Nat := 7
abbrev f_start : Nat := 8
abbrev f_program : Nat := 9
abbrev f_lane : Nat := 10
abbrev f_names : Nat := 11
abbrev f_size : Nat := 12
abbrev f_current : Nat := 13
abbrev f_cells : Nat := 14
abbrev f_saved : Nat := 15
abbrev f_source : Nat := 16
abbrev f_local : Nat := 17
abbrev f_target : Nat := 18
abbrev f_inputs : Nat := 19
abbrev f_steps : Nat := 20
abbrev f_lanes : Nat := 21
abbrev f_tracks : Nat := 22
abbrev f_lengths : Nat := 23
abbrev f_system : Nat := 24
abbrev f_plan : Nat := 25
abbrev f_counts : Nat := 26
abbrev f_programs : Nat := 27
abbrev f_tables : Nat := 28
abbrev f_members : Nat := 29
abbrev f_found : Nat := 30
abbrev f_end : Nat := 31
abbrev f_rule : Nat := 32
abbrev f_step : Nat := 33
abbrev f_starts : Nat := 34
abbrev f_numbers : Nat := 35
abbrev f_pairs : Nat := 36
abbrev f_weave : Nat := 37
abbrev f_known : Nat := 38
abbrev f_machine : Nat := 39
abbrev f_scheduler : Nat := 40
abbrev f_beginning : Nat := 41
abbrev f_own : Nat := 42
def clsFlds : Nat → List Nat
 | 2 => [0]
 | 3 => [1, 0]
 | 4 => [0]
 | 5 => [2]
 | 6 => [3]
 | 7 => [3]
 | 8 => [4]
 | 10 => [5]
 | 11 => [6]
 | 12 => [7]
 | 13 => [6]
 | 14 => [5]
 | 15 => [9, 8]
 | 16 => [6, 10]
 | 17 => [14, 15]
 | 18 => [11, 12, 13]
 | 20 => [16, 17]
 | 21 => [18, 4, 19]
 | 22 => [16, 17, 18, 4, 19]
 | 23 => [3, 20]
 | 24 => [14, 27, 26, 11]
 | 25 => [24, 12, 28]
 | 26 => [21]
 | 27 => [24, 25, 22, 23]
 | 28 => [29, 30]
 | 29 => [8, 31, 32, 33]
 | 30 => [34, 35]
 | 31 => [35, 12, 8, 31, 36, 32, 33]
 | 32 => [37]
 | 33 => [37, 38]
 | 34 => [37, 38, 39]
 | 35 => [37, 38, 39, 32]
 | 36 => [40, 39, 14, 41, 42]
 | _ => []
def isx (c x : Nat) : Option Bool := if c ≤ 16 ∧ x ≤ 16 then some (c == x || x == 0) else none
def cnames : List Str := (["WeaveError", "InvalidCells", "UnknownCell", "OutOfRange", "InvalidState", "InvalidProgram", "InvalidSystem", "UnknownProgram", "InvalidTable", "InvalidPlan", "TooManySteps", "InvalidWeaving", "InvalidPlaces", "NoWeaving", "UnknownFormula", "NotKept", "Refused", "Trial", "Cells", "Step", "Read", "Write", "ReadWrite", "Program", "System", "Machine", "Plan", "Weave", "Rule", "Breach", "Formulas", "FreeStore", "SerialScheduler", "NamesScheduler", "TablesScheduler", "RuleScheduler", "Run"] : List String).map Str.ofString
end Zl
end
section
namespace Zl
open PySem PySem.Spec PyProof.Rows L2
inductive D where
 | non | bl (b : Bool) | int (i : Int) | str (s : List Nat)
 | tup (xs : List D) | lst (xs : List D)
 | tupN (xs : List D)
 | scr (xs : List D)
 | obj (c : Nat) (vs : List D)
 | dic (ks vs : List D)
 | dit (ks vs : List D)
 | cls (c : Nat)
inductive Z where
 | d (x : D) | r (i : Nat) | e (a : Addr)
inductive ZO where
 | gone
 | dl (xs : List D) | zl (xs : List Z)
 | dic (ks vs : List D)
 | dit (ks vs : List D)
 | ins (c : Nat) (fs : List (Nat × Z))
def ZO.live : ZO → Bool
 | .gone => false
 | _ => true
abbrev ZH := List ZO
abbrev ZS := List (Option Z)
structure ZX where
 c : Nat
 vs : List D
structure G where
 K : PySem.W.Frag
 cad : Nat → Addr
 has : Nat → Bool
 hasX : Nat → Bool
 w : World
def keyD : Key → D
 | .inl i => .int i
 | .inr s => .str s.cps.toList
theorem mkS_inj {s t : List Nat} (h : mkS s = mkS t) : s = t := by
 injection h with h
 simpa using congrArg Array.toList h
def SOk (s : List Nat) : Prop := (∀ c ∈ s, c < 1114112) ∧ s.length ≤ sizeLine
def ditO (a : Addr) (es : Array DictEntry) : HO := .ext fun h => ∃ o ep, h.get? a = some o ∧ o.ExactDict ∧ o.data = .dict es ep
mutual
def nkD : D → Option NestedKey
 | .non => some .none
 | .int i => some (.num i)
 | .str s => some (.text (mkS s))
 | .tup xs => (nkDs xs).map .tup
 | .tupN xs => (nkDs xs).map .tup
 | _ => none
def nkDs : List D → Option (List NestedKey)
 | [] => some []
 | x :: xs => (nkD x).bind fun k => (nkDs xs).map fun ks => k :: ks
end
abbrev NK := NestedKey × Addr × Value
def entN (w : World) (x : NK) : DictEntry := ⟨x.1.hash w, .ref x.2.1, x.2.2⟩
structure DitE (w : World) (o : Option HO) (a : Addr) (ks : List D) (xs : List NK) (vs : List V) : Prop where
 at_ : o = some (ditO a (xs.map (entN w)).toArray)
 sm : (a == sysModules) = false
 nd : (xs.map (·.1)).Nodup
 sz : xs.length ≤ sizeLine
 key : ks.map nkD = xs.map fun x => some x.1
 dep : ∀ x ∈ xs, x.1.depth ≤ 8
 val : Vals vs (xs.map fun x => x.2.2)
section
variable (g : G) (U : Addr → Prop) (H : Hp)
mutual
def RD : D → V → Prop
 | .non, v => v = .non
 | .bl b, v => v = .bl b
 | .int i, v => v = .int i
 | .str s, v => v = .str (mkS s) ∧ SOk s
 | .tup xs, v => ∃ a vs, v = .ref a ∧ ¬ U a ∧ Rd H a (.tup vs) ∧ RDs xs vs
 | .tupN xs, v => ∃ a vs od, v = .ref a ∧ ¬ U a ∧ H a = some (.frz od (.tup vs)) ∧ od.dict = none ∧ RDs xs vs
 | .lst xs, v => ∃ a vs, v = .ref a ∧ ¬ U a ∧ H a = some (.lst vs) ∧ RDs xs vs
 | .scr xs, v => ∃ a vs, v = .ref a ∧ ((¬ U a ∧ Rd H a (.lst vs)) ∨ ∀ H', SqL g.K H' a vs) ∧ RDs xs vs
 | .obj c ds, v => ∃ a dx fvs, v = .ref a ∧ ¬ U a ∧ g.has c = true ∧ H a = some (.ins (g.cad c) dx fvs) ∧ fvs.map (·.1) = (clsFlds c).map fnm ∧ RDs ds (fvs.map (·.2))
 | .dic ks ds, v => ∃ a od kvs, v = .ref a ∧ ¬ U a ∧ H a = some (.frz od (.dK kvs)) ∧ ks = kvs.map (fun p : Key × V => keyD p.1) ∧ (∀ s, .str s ∈ ks → SOk s) ∧ RDs ds (kvs.map (·.2))
 | .dit ks ds, v => ∃ a xs vs, v = .ref a ∧ ¬ U a ∧ DitE g.w (H a) a ks xs vs ∧ RDs ks (xs.map fun x => .ref x.2.1) ∧ RDs ds vs
 | .cls c, v => v = .ref (g.cad c)
def RDs : List D → List V → Prop
 | [], vs => vs = []
 | x :: xs, vs => ∃ v vs', vs = v :: vs' ∧ RD x v ∧ RDs xs vs'
end
end
def Stb (U : Addr → Prop) (H : Hp) (U' : Addr → Prop) (H' : Hp) : Prop := ∀ a o, H a = some o → ¬ U a → H' a = some o ∧ ¬ U' a
theorem Stb.refl {U : Addr → Prop} {H : Hp} : Stb U H U H := fun _ _ h n => ⟨h, n⟩
theorem Stb.trans {U U1 U2 : Addr → Prop} {H H1 H2 : Hp} (a : Stb U H U1 H1) (b : Stb U1 H1 U2 H2) : Stb U H U2 H2 := fun x o h n =>
 let ⟨h1, n1⟩ := a x o h n
 b x o h1 n1
section
variable {g : G} {U U' : Addr → Prop} {H H' : Hp}
theorem Rd.stb {a : Addr} {u : HO} (s : Stb U H U' H') (n : ¬ U a) (h : Rd H a u) : Rd H' a u ∧ ¬ U' a := by
 rcases h with h | ⟨o, h⟩
 · exact ⟨.inl (s a _ h n).1, (s a _ h n).2⟩
 · exact ⟨.inr ⟨o, (s a _ h n).1⟩, (s a _ h n).2⟩
end
theorem scL {K : PySem.W.Frag} {U : Addr → Prop} {H : Hp} {a : Addr} {vs : List V} (h : (¬ U a ∧ Rd H a (.lst vs)) ∨ ∀ H', SqL K H' a vs) : SqL K H a vs := h.elim (fun z => .inl z.2) (fun z => z H)
section
variable {g : G} {U U' : Addr → Prop} {H H' : Hp}
mutual
theorem RD.mono (s : Stb U H U' H') : ∀ (d : D) (v : V), RD g U H d v → RD g U' H' d v
 | .non, _, h => by unfold RD at *; exact h
 | .bl _, _, h => by unfold RD at *; exact h
 | .int _, _, h => by unfold RD at *; exact h
 | .str _, _, h => by unfold RD at *; exact h
 | .cls _, _, h => by unfold RD at *; exact h
 | .tup xs, _, h => by
   unfold RD at *
   obtain ⟨a, vs, e, n, r, q⟩ := h
   exact ⟨a, vs, e, (Rd.stb s n r).2, (Rd.stb s n r).1, RDs.mono s xs vs q⟩
 | .tupN xs, _, h => by
   unfold RD at *
   obtain ⟨a, vs, od, e, n, r, k, q⟩ := h
   exact ⟨a, vs, od, e, (s a _ r n).2, (s a _ r n).1, k, RDs.mono s xs vs q⟩
 | .lst xs, _, h => by
   unfold RD at *
   obtain ⟨a, vs, e, n, r, q⟩ := h
   exact ⟨a, vs, e, (s a _ r n).2, (s a _ r n).1, RDs.mono s xs vs q⟩
 | .scr xs, _, h => by
   unfold RD at *
   obtain ⟨a, vs, e, r, q⟩ := h
   exact ⟨a, vs, e, r.imp (fun z => ⟨(Rd.stb s z.1 z.2).2, (Rd.stb s z.1 z.2).1⟩) id, RDs.mono s xs vs q⟩
 | .obj c ds, _, h => by
   unfold RD at *
   obtain ⟨a, dx, fvs, e, n, hc, r, k, q⟩ := h
   exact ⟨a, dx, fvs, e, (s a _ r n).2, hc, (s a _ r n).1, k, RDs.mono s ds _ q⟩
 | .dic ks ds, _, h => by
   unfold RD at *
   obtain ⟨a, od, kvs, e, n, r, k, k', q⟩ := h
   exact ⟨a, od, kvs, e, (s a _ r n).2, (s a _ r n).1, k, k', RDs.mono s ds _ q⟩
 | .dit ks ds, _, h => by
   unfold RD at *
   obtain ⟨a, xs, vs, e, n, r, q1, q2⟩ := h
   have st := s a _ r.at_ n
   exact ⟨a, xs, vs, e, st.2, ⟨st.1, r.sm, r.nd, r.sz, r.key, r.dep, r.val⟩, RDs.mono s ks _ q1, RDs.mono s ds _ q2⟩
theorem RDs.mono (s : Stb U H U' H') : ∀ (ds : List D) (vs : List V), RDs g U H ds vs → RDs g U' H' ds vs
 | [], _, h => by unfold RDs at *; exact h
 | d :: ds, _, h => by
   unfold RDs at *
   obtain ⟨v, vs', e, r, q⟩ := h
   exact ⟨v, vs', e, RD.mono s d v r, RDs.mono s ds vs' q⟩
end
theorem rd_non {v : V} : RD g U H .non v ↔ v = .non := by unfold RD; exact Iff.rfl
theorem rd_bl {b : Bool} {v : V} : RD g U H (.bl b) v ↔ v = .bl b := by unfold RD; exact Iff.rfl
theorem rd_int {i : Int} {v : V} : RD g U H (.int i) v ↔ v = .int i := by unfold RD; exact Iff.rfl
theorem rd_str {s : List Nat} {v : V} : RD g U H (.str s) v ↔ v = .str (mkS s) ∧ SOk s := by unfold RD; exact Iff.rfl
theorem rd_tup {xs : List D} {v : V} : RD g U H (.tup xs) v ↔ ∃ a vs, v = .ref a ∧ ¬ U a ∧ Rd H a (.tup vs) ∧ RDs g U H xs vs := by
 conv => lhs; unfold RD
theorem rd_tupN {xs : List D} {v : V} : RD g U H (.tupN xs) v ↔ ∃ a vs od, v = .ref a ∧ ¬ U a ∧ H a = some (.frz od (.tup vs)) ∧ od.dict = none ∧ RDs g U H xs vs := by
 conv => lhs; unfold RD
theorem rd_lst {xs : List D} {v : V} : RD g U H (.lst xs) v ↔ ∃ a vs, v = .ref a ∧ ¬ U a ∧ H a = some (.lst vs) ∧ RDs g U H xs vs := by
 conv => lhs; unfold RD
theorem rd_scr {xs : List D} {v : V} : RD g U H (.scr xs) v ↔ ∃ a vs, v = .ref a ∧ ((¬ U a ∧ Rd H a (.lst vs)) ∨ ∀ H', SqL g.K H' a vs) ∧ RDs g U H xs vs := by
 conv => lhs; unfold RD
theorem rd_obj {c : Nat} {ds : List D} {v : V} : RD g U H (.obj c ds) v ↔ ∃ a dx fvs, v = .ref a ∧ ¬ U a ∧ g.has c = true ∧ H a = some (.ins (g.cad c) dx fvs) ∧ fvs.map (·.1) = (clsFlds c).map fnm ∧ RDs g U H ds (fvs.map (·.2)) := by
 conv => lhs; unfold RD
theorem rd_dit {ks ds : List D} {v : V} : RD g U H (.dit ks ds) v ↔ ∃ a xs vs, v = .ref a ∧ ¬ U a ∧ DitE g.w (H a) a ks xs vs ∧ RDs g U H ks (xs.map fun x => .ref x.2.1) ∧ RDs g U H ds vs := by
 conv => lhs; unfold RD
theorem rds_nil {vs : List V} : RDs g U H [] vs ↔ vs = [] := by unfold RDs; exact Iff.rfl
theorem rds_cons {d : D} {ds : List D} {vs : List V} : RDs g U H (d :: ds) vs ↔ ∃ v vs', vs = v :: vs' ∧ RD g U H d v ∧ RDs g U H ds vs' := by
 conv => lhs; unfold RDs
theorem RDs.length : ∀ {ds : List D} {vs : List V}, RDs g U H ds vs → vs.length = ds.length
 | [], vs, h => by rw [rds_nil.mp h]; rfl
 | d :: ds, vs, h => by
   obtain ⟨v, vs', rfl, _, q⟩ := rds_cons.mp h
   simp [RDs.length q]
theorem RDs.append : ∀ {ds es : List D} {vs us : List V}, RDs g U H ds vs → RDs g U H es us → RDs g U H (ds ++ es) (vs ++ us)
 | [], _, vs, _, h, k => by rw [rds_nil.mp h]; exact k
 | d :: ds, _, vs, _, h, k => by
   obtain ⟨v, vs', rfl, r, q⟩ := rds_cons.mp h
   exact rds_cons.mpr ⟨v, _, rfl, r, RDs.append q k⟩
theorem RDs.get : ∀ {ds : List D} {vs : List V} {i : Nat} {d : D}, RDs g U H ds vs → ds[i]? = some d → ∃ v, vs[i]? = some v ∧ RD g U H d v
 | [], _, _, _, _, e => by simp at e
 | d :: ds, vs, 0, _, h, e => by
   obtain ⟨v, vs', rfl, r, q⟩ := rds_cons.mp h
   simp at e; subst e
   exact ⟨v, by simp, r⟩
 | d :: ds, vs, i + 1, x, h, e => by
   obtain ⟨v, vs', rfl, r, q⟩ := rds_cons.mp h
   obtain ⟨u, h1, h2⟩ := RDs.get (i := i) (d := x) q (by simpa using e)
   exact ⟨u, by simpa using h1, h2⟩
end
def RZ (g : G) (U : Addr → Prop) (H : Hp) (ρ : List Addr) : Z → V → Prop
 | .d x, v => RD g U H x v
 | .r i, v => ∃ a, ρ[i]? = some a ∧ v = .ref a
 | .e a, v => v = .ref a
def RZs (g : G) (U : Addr → Prop) (H : Hp) (ρ : List Addr) : List Z → List V → Prop
 | [], vs => vs = []
 | x :: xs, vs => ∃ v vs', vs = v :: vs' ∧ RZ g U H ρ x v ∧ RZs g U H ρ xs vs'
section
variable {g : G} {U U' : Addr → Prop} {H H' : Hp} {ρ ρ' : List Addr}
theorem pre_get {α : Type} {l l' : List α} (p : l <+: l') {i : Nat} {x : α} (e : l[i]? = some x) : l'[i]? = some x := by
 obtain ⟨t, rfl⟩ := p
 obtain ⟨h, _⟩ := List.getElem?_eq_some_iff.mp e
 rw [List.getElem?_append_left h]
 exact e
theorem RZ.mono (s : Stb U H U' H') (p : ρ <+: ρ') : ∀ {z : Z} {v : V}, RZ g U H ρ z v → RZ g U' H' ρ' z v
 | .d x, _, h => RD.mono s x _ h
 | .r i, _, ⟨a, e, k⟩ => ⟨a, pre_get p e, k⟩
 | .e _, _, h => h
theorem RZs.mono (s : Stb U H U' H') (p : ρ <+: ρ') : ∀ {zs : List Z} {vs : List V}, RZs g U H ρ zs vs → RZs g U' H' ρ' zs vs
 | [], _, h => h
 | _ :: _, _, ⟨v, vs', e, r, q⟩ => ⟨v, vs', e, RZ.mono s p r, RZs.mono s p q⟩
theorem RZs.length : ∀ {ds : List Z} {vs : List V}, RZs g U H ρ ds vs → vs.length = ds.length
 | [], vs, h => by rw [show vs = [] from h]; rfl
 | d :: ds, vs, ⟨v, vs', e, _, q⟩ => by rw [e]; simp [RZs.length q]
theorem RZs.append : ∀ {ds es : List Z} {vs us : List V}, RZs g U H ρ ds vs → RZs g U H ρ es us → RZs g U H ρ (ds ++ es) (vs ++ us)
 | [], _, vs, _, h, k => by rw [show vs = [] from h]; exact k
 | d :: ds, _, vs, _, ⟨v, vs', e, r, q⟩, k => by rw [e]; exact ⟨v, _, rfl, r, RZs.append q k⟩
theorem RZs.get : ∀ {ds : List Z} {vs : List V} {i : Nat} {d : Z}, RZs g U H ρ ds vs → ds[i]? = some d → ∃ v, vs[i]? = some v ∧ RZ g U H ρ d v
 | [], _, _, _, _, e => by simp at e
 | d :: ds, vs, 0, _, ⟨v, vs', e', r, q⟩, e => by
   simp at e; subst e
   exact ⟨v, by rw [e']; simp, r⟩
 | d :: ds, vs, i + 1, x, ⟨v, vs', e', r, q⟩, e => by
   obtain ⟨u, h1, h2⟩ := RZs.get (i := i) (d := x) q (by simpa using e)
   exact ⟨u, by rw [e']; simpa using h1, h2⟩
end
def RO (g : G) (U : Addr → Prop) (H : Hp) (ρ : List Addr) (a : Addr) : ZO → Prop
 | .gone => True
 | .dl xs => ∃ vs, H a = some (.lst vs) ∧ RDs g U H xs vs
 | .zl zs => ∃ vs, H a = some (.lst vs) ∧ RZs g U H ρ zs vs
 | .dic ks ds => ∃ kvs : List (Key × V), H a = some (.dK kvs) ∧ ks = kvs.map (fun p => keyD p.1) ∧ (∀ s, .str s ∈ ks → SOk s) ∧ RDs g U H ds (kvs.map (·.2))
 | .dit ks ds => ∃ xs vs, DitE g.w (H a) a ks xs vs ∧ RDs g U H ks (xs.map fun x => .ref x.2.1) ∧ RDs g U H ds vs
 | .ins c fs => g.has c = true ∧ (∀ p ∈ fs, p.1 ∈ clsFlds c) ∧ ∃ dx fvs, H a = some (.ins (g.cad c) dx fvs) ∧ fvs.map (·.1) = (fs.map (·.1)).map fnm ∧ RZs g U H ρ (fs.map (·.2)) (fvs.map (·.2))
structure Fr where
 P : Addr → Prop
 U0 : Addr → Prop
 H0 : Hp
def UO (F : Fr) (ρ : List Addr) (zh : ZH) : Addr → Prop := fun a => F.P a ∨ ∃ (i : Nat) (o : ZO), ρ[i]? = some a ∧ zh[i]? = some o ∧ o.live = true
structure RelH (g : G) (F : Fr) (ρ : List Addr) (zh : ZH) (H : Hp) : Prop where
 len : ρ.length = zh.length
 nd : ρ.Nodup
 own : ∀ (i : Nat) (a : Addr) (o : ZO), ρ[i]? = some a → zh[i]? = some o → RO g (UO F ρ zh) H ρ a o
 prot : ∀ a, F.P a → H a = F.H0 a ∧ ∃ o, F.H0 a = some o
 notp : ∀ a ∈ ρ, ¬ F.P a
 trk : ∀ a ∈ ρ, ∃ o, H a = some o
 stb : Stb F.U0 F.H0 (UO F ρ zh) H
def RelS (g : G) (U : Addr → Prop) (H : Hp) (ρ : List Addr) (zσ : ZS) (σ : L2.St) : Prop :=
 σ.length = zσ.length ∧ ∀ (i : Nat) (z : Z), zσ[i]? = some (some z) → ∃ v, σ[i]? = some (some v) ∧ RZ g U H ρ z v
structure Ext (F : Fr) (ρ : List Addr) (zh : ZH) (H : Hp) (ρ' : List Addr) (zh' : ZH) (H' : Hp) : Prop where
 pre : ρ <+: ρ'
 stb : Stb (UO F ρ zh) H (UO F ρ' zh') H'
 trk : ∀ a o, H a = some o → ∃ o', H' a = some o'
 fresh : ∀ a ∈ ρ', a ∈ ρ ∨ H a = none
theorem Ext.refl {F : Fr} {ρ : List Addr} {zh : ZH} {H : Hp} : Ext F ρ zh H ρ zh H := ⟨List.prefix_refl _, Stb.refl, fun _ o h => ⟨o, h⟩, fun _ h => .inl h⟩
theorem Ext.trans {F : Fr} {ρ ρ1 ρ2 : List Addr} {zh zh1 zh2 : ZH} {H H1 H2 : Hp} (a : Ext F ρ zh H ρ1 zh1 H1) (b : Ext F ρ1 zh1 H1 ρ2 zh2 H2) : Ext F ρ zh H ρ2 zh2 H2 :=
 ⟨a.pre.trans b.pre, a.stb.trans b.stb, fun x o h => let ⟨o1, h1⟩ := a.trk x o h; b.trk x o1 h1, fun x h => by
   rcases b.fresh x h with h | h
   · exact a.fresh x h
   · refine .inr ?_
     cases k : H x with
     | none => rfl
     | some o =>
       obtain ⟨o1, h1⟩ := a.trk x o k
       rw [h] at h1; cases h1⟩
theorem RelS.mono {g : G} {F : Fr} {ρ ρ' : List Addr} {zh zh' : ZH} {H H' : Hp} {zσ : ZS} {σ : L2.St} (e : Ext F ρ zh H ρ' zh' H') (r : RelS g (UO F ρ zh) H ρ zσ σ) : RelS g (UO F ρ' zh') H' ρ' zσ σ :=
 ⟨r.1, fun i z h => let ⟨v, h1, h2⟩ := r.2 i z h; ⟨v, h1, RZ.mono e.stb e.pre h2⟩⟩
theorem RelH.live {g : G} {F : Fr} {ρ : List Addr} {zh : ZH} {H : Hp} (r : RelH g F ρ zh H) : ∀ a, UO F ρ zh a → ∃ o, H a = some o := by
 rintro a (h | ⟨i, o, h1, _, _⟩)
 · obtain ⟨e, o, k⟩ := r.prot a h
   exact ⟨o, e.trans k⟩
 · exact r.trk a (List.mem_of_getElem? h1)
def RX (g : G) (U : Addr → Prop) (H : Hp) (x : ZX) (cls : Value) (dx : Option Addr) : Prop :=
 cls = .ref (g.cad x.c) ∧ g.hasX x.c = true ∧ ((x.vs = [] ∧ dx = none) ∨ x.vs ≠ [] ∧ ∃ d fvs, dx = some d ∧ ¬ U d ∧ H d = some (.xd fvs) ∧ fvs.map (·.1) = (clsFlds x.c).map fnm ∧ RDs g U H x.vs (fvs.map (·.2)))
inductive Out (α : Type) where
 | ok (a : α) (h : ZH)
 | exc (x : ZX) (h : ZH)
 | bad
inductive OutS where
 | nx (s : ZS) (h : ZH)
 | rt (z : Z) (h : ZH)
 | bk (s : ZS) (h : ZH)
 | ct (s : ZS) (h : ZH)
 | exc (x : ZX) (s : ZS) (h : ZH)
 | bad
abbrev DE := ZS → ZH → Out Z
abbrev DT := ZS → ZH → Out Bool
abbrev DA := ZS → ZH → Out (List Z)
abbrev DS := ZS → ZH → OutS
def Post (g : G) (F : Fr) (W : WX) (ρ : List Addr) (zσ : ZS) (zh : ZH) (σ : L2.St) (H : Hp) (out : Out Z) (Q : VK) : Prop :=
 match out with
 | .ok z zh' => ∀ ρ' v H', Ext F ρ zh H ρ' zh' H' → RelH g F ρ' zh' H' → RZ g (UO F ρ' zh') H' ρ' z v → Q v H'
 | .exc x zh' => ∀ ρ' cls dx H', Ext F ρ zh H ρ' zh' H' → RelH g F ρ' zh' H' → RX g (UO F ρ' zh') H' x cls dx → W cls dx σ H'
 | .bad => False
def low (g : G) (F : Fr) (W : WX) (d : DE) : TE := fun σ H Q => ∃ ρ zσ zh, RelH g F ρ zh H ∧ RelS g (UO F ρ zh) H ρ zσ σ ∧ Post g F W ρ zσ zh σ H (d zσ zh) Q
end Zl
end
section
namespace Zl
open PySem PySem.Spec PyProof.Rows L2
section
variable {g : G} {F : Fr} {U U' : Addr → Prop} {ρ ρ' : List Addr} {zh zh' : ZH} {H H' : Hp}
theorem RO.mono {a : Addr} (s : Stb U H U' H') (p : ρ <+: ρ') (e : H' a = H a) : ∀ {o : ZO}, RO g U H ρ a o → RO g U' H' ρ' a o
 | .gone, h => h
 | .dl xs, ⟨vs, h, r⟩ => ⟨vs, e.trans h, RDs.mono s xs vs r⟩
 | .zl xs, ⟨vs, h, r⟩ => ⟨vs, e.trans h, RZs.mono s p r⟩
 | .dic ks ds, ⟨kvs, h, k, k', r⟩ => ⟨kvs, e.trans h, k, k', RDs.mono s _ _ r⟩
 | .dit ks ds, ⟨xs, vs, h, r1, r2⟩ => ⟨xs, vs, by rw [e]; exact h, RDs.mono s _ _ r1, RDs.mono s _ _ r2⟩
 | .ins c fs, ⟨hc, hf, dx, fvs, h, k, r⟩ => ⟨hc, hf, dx, fvs, e.trans h, k, RZs.mono s p r⟩
theorem uo_new {p : Addr} {zo : ZO} (l : ρ.length = zh.length) {a : Addr} (h : UO F (ρ ++ [p]) (zh ++ [zo]) a) : UO F ρ zh a ∨ a = p := by
 rcases h with h | ⟨i, o, h1, h2, h3⟩
 · exact .inl (.inl h)
 · by_cases hi : i < ρ.length
   · rw [List.getElem?_append_left hi] at h1
     rw [List.getElem?_append_left (by omega)] at h2
     exact .inl (.inr ⟨i, o, h1, h2, h3⟩)
   · have e : i = ρ.length := by
       obtain ⟨hl, _⟩ := List.getElem?_eq_some_iff.mp h1
       simp at hl
       omega
     subst e
     simp at h1
     exact .inr h1.symm
theorem RelH.notU_new (r : RelH g F ρ zh H) {p : Addr} (n : H p = none) : ¬ UO F ρ zh p := fun u => by
 obtain ⟨o, e⟩ := r.live p u
 rw [n] at e; cases e
theorem RelH.newF (r : RelH g F ρ zh H) {p : Addr} {o : HO} (n : H p = none) : RelH g F ρ zh (upd H p o) ∧ Ext F ρ zh H ρ zh (upd H p o) ∧ ¬ UO F ρ zh p := by
 have nu := r.notU_new n
 have s : Stb (UO F ρ zh) H (UO F ρ zh) (upd H p o) := fun a u e nua => ⟨by rw [upd_ne (ne_of_none e n)]; exact e, nua⟩
 refine ⟨⟨r.len, r.nd, fun i a zo h1 h2 => ?_, fun a h => ?_, r.notp, fun a h => ?_, r.stb.trans s⟩, ⟨List.prefix_refl _, s, fun a u e => ⟨u, by rw [upd_ne (ne_of_none e n)]; exact e⟩, fun _ h => .inl h⟩, nu⟩
 · have ha : a ≠ p := by
     obtain ⟨u, e⟩ := r.trk a (List.mem_of_getElem? h1)
     exact ne_of_none e n
   exact RO.mono s (List.prefix_refl _) (upd_ne ha) (r.own i a zo h1 h2)
 · obtain ⟨e, u, k⟩ := r.prot a h
   exact ⟨by rw [upd_ne (ne_of_none (e.trans k) n)]; exact e, u, k⟩
 · obtain ⟨u, e⟩ := r.trk a h
   exact ⟨u, by rw [upd_ne (ne_of_none e n)]; exact e⟩
theorem RelH.newO (r : RelH g F ρ zh H) {p : Addr} {o : HO} {zo : ZO} (n : H p = none)
   (h : RO g (UO F (ρ ++ [p]) (zh ++ [zo])) (upd H p o) (ρ ++ [p]) p zo) :
   RelH g F (ρ ++ [p]) (zh ++ [zo]) (upd H p o) ∧ Ext F ρ zh H (ρ ++ [p]) (zh ++ [zo]) (upd H p o) := by
 have hp : ρ <+: ρ ++ [p] := List.prefix_append _ _
 have s : Stb (UO F ρ zh) H (UO F (ρ ++ [p]) (zh ++ [zo])) (upd H p o) := fun a u e nua =>
   ⟨by rw [upd_ne (ne_of_none e n)]; exact e, fun z => (uo_new r.len z).elim nua (ne_of_none e n)⟩
 have np : p ∉ ρ := fun z => by
   obtain ⟨u, e⟩ := r.trk p z
   rw [n] at e; cases e
 refine ⟨⟨by simp [r.len], ?_, fun i a o' h1 h2 => ?_, fun a h => ?_, fun a h z => ?_, fun a h => ?_, r.stb.trans s⟩, ⟨hp, s, fun a u e => ⟨u, by rw [upd_ne (ne_of_none e n)]; exact e⟩, fun a h => ?_⟩⟩
 · rw [List.nodup_append]
   refine ⟨r.nd, by simp, fun a ha b hb e => np ?_⟩
   have : b = p := by simpa using hb
   rw [← this, ← e]; exact ha
 · by_cases hi : i < ρ.length
   · rw [List.getElem?_append_left hi] at h1
     rw [List.getElem?_append_left (by have := r.len; omega)] at h2
     have ha : a ≠ p := by
       obtain ⟨u, e⟩ := r.trk a (List.mem_of_getElem? h1)
       exact ne_of_none e n
     exact RO.mono s hp (upd_ne ha) (r.own i a o' h1 h2)
   · have e : i = ρ.length := by
       obtain ⟨hl, _⟩ := List.getElem?_eq_some_iff.mp h1
       simp at hl
       omega
     subst e
     simp at h1
     subst h1
     rw [r.len] at h2
     simp at h2
     subst h2
     exact h
 · obtain ⟨e, u, k⟩ := r.prot a h
   exact ⟨by rw [upd_ne (ne_of_none (e.trans k) n)]; exact e, u, k⟩
 · rcases List.mem_append.mp h with h | h
   · exact r.notp a h z
   · have e : a = p := by simpa using h
     obtain ⟨e1, u, k⟩ := r.prot a z
     rw [e] at e1 k
     rw [n, k] at e1; cases e1
 · rcases List.mem_append.mp h with h | h
   · obtain ⟨u, e⟩ := r.trk a h
     exact ⟨u, by rw [upd_ne (ne_of_none e n)]; exact e⟩
   · have e : a = p := by simpa using h
     exact ⟨o, by rw [e]; exact upd_same⟩
 · rcases List.mem_append.mp h with h | h
   · exact .inl h
   · have e : a = p := by simpa using h
     exact .inr (by rw [e]; exact n)
theorem uo_set {i : Nat} {zo : ZO} {a : Addr} (h : UO F ρ (zh.set i zo) a) (l : ∃ o, zh[i]? = some o ∧ o.live = true) : UO F ρ zh a := by
 rcases h with h | ⟨j, o, h1, h2, h3⟩
 · exact .inl h
 · by_cases e : j = i
   · subst e
     obtain ⟨o', k1, k2⟩ := l
     exact .inr ⟨j, o', h1, k1, k2⟩
   · rw [List.getElem?_set_ne (Ne.symm e)] at h2
     exact .inr ⟨j, o, h1, h2, h3⟩
theorem RelH.set (r : RelH g F ρ zh H) {i : Nat} {a : Addr} {o : HO} {zo zo' : ZO} (h1 : ρ[i]? = some a) (h2 : zh[i]? = some zo) (hl : zo.live = true)
   (h : RO g (UO F ρ (zh.set i zo')) (upd H a o) ρ a zo') :
   RelH g F ρ (zh.set i zo') (upd H a o) ∧ Ext F ρ zh H ρ (zh.set i zo') (upd H a o) := by
 have ua : UO F ρ zh a := .inr ⟨i, zo, h1, h2, hl⟩
 have s : Stb (UO F ρ zh) H (UO F ρ (zh.set i zo')) (upd H a o) := fun b u e nub =>
   ⟨by rw [upd_ne (fun z : b = a => nub (by rw [z]; exact ua))]; exact e, fun z => nub (uo_set z ⟨zo, h2, hl⟩)⟩
 have npa : ¬ F.P a := r.notp a (List.mem_of_getElem? h1)
 refine ⟨⟨by simp [r.len], r.nd, fun j b o' k1 k2 => ?_, fun b k => ?_, r.notp, fun b k => ?_, r.stb.trans s⟩, ⟨List.prefix_refl _, s, fun b u k => ?_, fun _ h => .inl h⟩⟩
 · by_cases e : j = i
   · subst e
     rw [h1] at k1; cases k1
     obtain ⟨li, _⟩ := List.getElem?_eq_some_iff.mp h2
     rw [List.getElem?_set_self li] at k2
     cases k2
     exact h
   · rw [List.getElem?_set_ne (Ne.symm e)] at k2
     have hb : b ≠ a := fun z => by
       rw [z] at k1
       obtain ⟨l1, e1⟩ := List.getElem?_eq_some_iff.mp k1
       obtain ⟨l2, e2⟩ := List.getElem?_eq_some_iff.mp h1
       exact e ((List.getElem_inj r.nd).mp (e1.trans e2.symm))
     exact RO.mono s (List.prefix_refl _) (upd_ne hb) (r.own j b o' k1 k2)
 · obtain ⟨e, u, k'⟩ := r.prot b k
   exact ⟨by rw [upd_ne (fun z : b = a => npa (by rw [← z]; exact k))]; exact e, u, k'⟩
 · by_cases e : b = a
   · exact ⟨o, by rw [e]; exact upd_same⟩
   · rw [upd_ne e]; exact r.trk b k
 · by_cases e : b = a
   · exact ⟨o, by rw [e]; exact upd_same⟩
   · rw [upd_ne e]; exact ⟨u, k⟩
theorem RelH.freeze (r : RelH g F ρ zh H) {i : Nat} {zo : ZO} (h2 : zh[i]? = some zo) (hl : zo.live = true) :
   RelH g F ρ (zh.set i .gone) H ∧ Ext F ρ zh H ρ (zh.set i .gone) H := by
 have s : Stb (UO F ρ zh) H (UO F ρ (zh.set i .gone)) H := fun b u e nub => ⟨e, fun z => nub (uo_set z ⟨zo, h2, hl⟩)⟩
 refine ⟨⟨by simp [r.len], r.nd, fun j b o' k1 k2 => ?_, r.prot, r.notp, r.trk, r.stb.trans s⟩, ⟨List.prefix_refl _, s, fun _ u k => ⟨u, k⟩, fun _ h => .inl h⟩⟩
 by_cases e : j = i
 · subst e
   obtain ⟨li, _⟩ := List.getElem?_eq_some_iff.mp h2
   rw [List.getElem?_set_self li] at k2
   cases k2
   trivial
 · rw [List.getElem?_set_ne (Ne.symm e)] at k2
   exact RO.mono s (List.prefix_refl _) rfl (r.own j b o' k1 k2)
theorem RelH.gone_notU (r : RelH g F ρ zh H) {i : Nat} {a : Addr} (h1 : ρ[i]? = some a) : ¬ UO F ρ (zh.set i .gone) a := by
 rintro (h | ⟨j, o, k1, k2, k3⟩)
 · exact r.notp a (List.mem_of_getElem? h1) h
 · have e : j = i := by
     obtain ⟨l1, e1⟩ := List.getElem?_eq_some_iff.mp k1
     obtain ⟨l2, e2⟩ := List.getElem?_eq_some_iff.mp h1
     exact (List.getElem_inj r.nd).mp (e1.trans e2.symm)
   subst e
   have li : j < zh.length := by
     obtain ⟨l, _⟩ := List.getElem?_eq_some_iff.mp k2
     simpa using l
   rw [List.getElem?_set_self li] at k2
   cases k2
   cases k3
end
section
variable {g : G} {F : Fr} {W : WX} {ρ ρ1 : List Addr} {zσ : ZS} {zh zh1 : ZH} {σ : L2.St} {H H1 : Hp}
def Out.bnd {α β : Type} (o : Out α) (f : α → ZH → Out β) : Out β :=
 match o with
 | .ok a h => f a h
 | .exc x h => .exc x h
 | .bad => .bad
theorem Post.shift (e : Ext F ρ zh H ρ1 zh1 H1) {out : Out Z} {Q : VK} (p : Post g F W ρ zσ zh σ H out Q) : Post g F W ρ1 zσ zh1 σ H1 out Q := by
 cases out with
 | ok z h => exact fun ρ' v H' e' => p ρ' v H' (e.trans e')
 | exc x h => exact fun ρ' c d H' e' => p ρ' c d H' (e.trans e')
 | bad => exact p
theorem Post.imp {out : Out Z} {Q Q' : VK} (p : Post g F W ρ zσ zh σ H out Q) (h : ∀ v H', Q v H' → Q' v H') : Post g F W ρ zσ zh σ H out Q' := by
 cases out with
 | ok z h1 => exact fun ρ' v H' e1 e2 e3 => h _ _ (p ρ' v H' e1 e2 e3)
 | exc x h => exact p
 | bad => exact p
theorem Post.bnd {out : Out Z} {f : Z → ZH → Out Z} {Q K : VK} (p : Post g F W ρ zσ zh σ H (out.bnd f) Q)
   (h : ∀ ρ1 z zh1 v H1, Ext F ρ zh H ρ1 zh1 H1 → RelH g F ρ1 zh1 H1 → RZ g (UO F ρ1 zh1) H1 ρ1 z v → Post g F W ρ1 zσ zh1 σ H1 (f z zh1) Q → K v H1) :
   Post g F W ρ zσ zh σ H out K := by
 cases out with
 | ok z zh1 => exact fun ρ' v H' e1 e2 e3 => h ρ' z zh1 v H' e1 e2 e3 (Post.shift e1 p)
 | exc x h => exact p
 | bad => exact p
theorem Post.done (r : RelH g F ρ zh H) {z : Z} {v : V} {Q : VK} (p : Post g F W ρ zσ zh σ H (.ok z zh) Q) (rz : RZ g (UO F ρ zh) H ρ z v) : Q v H :=
 p ρ v H Ext.refl r rz
end
def ZE (g : G) (F : Fr) (X : Cx) (W : WX) (e : Expr) (d : DE) : Prop := PE X e (low g F W d)
theorem PE.imp {X : Cx} {e : Expr} {t t' : TE} (h : PE X e t) (k : ∀ σ H Q, t' σ H Q → t σ H Q) : PE X e t' :=
 ⟨fun pins s σ H Q I q => h.run pins s σ H Q I (k σ H Q q)⟩
end Zl
end
section
namespace Zl
open PySem PySem.Spec PyProof.Rows L2
section
variable {g : G} {F : Fr} {U : Addr → Prop} {ρ : List Addr} {zh : ZH} {H : Hp}
theorem rz_non {v : V} : RZ g U H ρ (.d .non) v ↔ v = .non := rd_non (g := g) (U := U) (H := H)
theorem rz_bl {b : Bool} {v : V} : RZ g U H ρ (.d (.bl b)) v ↔ v = .bl b := rd_bl (g := g) (U := U) (H := H)
theorem rz_int {i : Int} {v : V} : RZ g U H ρ (.d (.int i)) v ↔ v = .int i := rd_int (g := g) (U := U) (H := H)
theorem rz_str {s : List Nat} {v : V} : RZ g U H ρ (.d (.str s)) v ↔ v = .str (mkS s) ∧ SOk s := rd_str (g := g) (U := U) (H := H)
def asList (z : Z) (h : ZH) : Option (List D) :=
 match z with
 | .d (.lst xs) => some xs
 | .r i => match h[i]? with
   | some (.dl xs) => some xs
   | _ => none
 | _ => none
def asSeq (z : Z) (h : ZH) : Option (List D) :=
 match z with
 | .d (.lst xs) => some xs
 | .d (.tup xs) => some xs
 | .d (.scr xs) => some xs
 | .r i => match h[i]? with
   | some (.dl xs) => some xs
   | _ => none
 | _ => none
theorem asList_ok (r : RelH g F ρ zh H) {z : Z} {v : V} (rz : RZ g (UO F ρ zh) H ρ z v) {xs : List D} (h : asList z zh = some xs) :
   ∃ a vs, v = .ref a ∧ H a = some (.lst vs) ∧ RDs g (UO F ρ zh) H xs vs := by
 unfold asList at h
 split at h
 · cases h
   obtain ⟨a, vs, e, _, q, k⟩ := rd_lst.mp rz
   exact ⟨a, vs, e, q, k⟩
 · rename_i i
   obtain ⟨a, e, k⟩ := rz
   cases hz : zh[i]? with
   | none => rw [hz] at h; cases h
   | some o =>
     rw [hz] at h
     cases o with
     | dl ys =>
       cases h
       obtain ⟨vs, q, z⟩ := r.own i a _ e hz
       exact ⟨a, vs, k, q, z⟩
     | _ => cases h
 · cases h
theorem asSeq_ok (r : RelH g F ρ zh H) {z : Z} {v : V} (rz : RZ g (UO F ρ zh) H ρ z v) {xs : List D} (h : asSeq z zh = some xs) :
   ∃ a vs, v = .ref a ∧ (SqL g.K H a vs ∨ SqT g.K H a vs) ∧ RDs g (UO F ρ zh) H xs vs := by
 unfold asSeq at h
 split at h
 · cases h
   obtain ⟨a, vs, e, _, q, k⟩ := rd_lst.mp rz
   exact ⟨a, vs, e, .inl (SqL.of q), k⟩
 · cases h
   obtain ⟨a, vs, e, _, q, k⟩ := rd_tup.mp rz
   exact ⟨a, vs, e, .inr (.inl q), k⟩
 · cases h
   obtain ⟨a, vs, e, q, k⟩ := rd_scr.mp rz
   exact ⟨a, vs, e, .inl (scL q), k⟩
 · rename_i i
   obtain ⟨a, e, k⟩ := rz
   cases hz : zh[i]? with
   | none => rw [hz] at h; cases h
   | some o =>
     rw [hz] at h
     cases o with
     | dl ys =>
       cases h
       obtain ⟨vs, q, z⟩ := r.own i a _ e hz
       exact ⟨a, vs, k, .inl (SqL.of q), z⟩
     | _ => cases h
 · cases h
def viewD (z : Z) (h : ZH) : Option D :=
 match z with
 | .d x => some x
 | .r i => match h[i]? with
   | some (.dl xs) => some (.lst xs)
   | _ => none
 | .e _ => none
end
mutual
def D.py : D → Option PyData
 | .non => some .none
 | .bl b => some (.bool b)
 | .int i => some (.int i)
 | .str s => some (.str (mkS s))
 | .tup xs => (D.pys xs).map .tuple
 | .lst xs => (D.pys xs).map .list
 | .scr xs => (D.pys xs).map .list
 | _ => none
def D.pys : List D → Option (List PyData)
 | [] => some []
 | x :: xs => (D.py x).bind fun p => (D.pys xs).bind fun ps => some (p :: ps)
end
section
variable {g : G} {U : Addr → Prop} {H : Hp}
mutual
theorem dp_of : ∀ (d : D) (v : V) (p : PyData), RD g U H d v → d.py = some p → Dp g.K H v p ∧ p.canLay0 = true
 | .non, v, p, h, e => by
   rw [rd_non.mp h]; unfold D.py at e; cases e; exact ⟨.non, rfl⟩
 | .bl b, v, p, h, e => by
   rw [rd_bl.mp h]; unfold D.py at e; cases e; exact ⟨.bl b, rfl⟩
 | .int i, v, p, h, e => by
   rw [rd_int.mp h]; unfold D.py at e; cases e; exact ⟨.int i, rfl⟩
 | .str s, v, p, h, e => by
   obtain ⟨k, ok, _⟩ := rd_str.mp h
   rw [k]; unfold D.py at e; cases e
   refine ⟨.str _, ?_⟩
   unfold PyData.canLay0 PyData.strOk
   simp only [mkS, Array.all_eq_true_iff_forall_mem, List.mem_toArray, decide_eq_true_eq]
   intro c hc
   exact ok c hc
 | .tup xs, v, p, h, e => by
   obtain ⟨a, vs, rfl, _, q, k⟩ := rd_tup.mp h
   unfold D.py at e
   cases hp : D.pys xs with
   | none => rw [hp] at e; cases e
   | some ps =>
     rw [hp] at e; cases e
     obtain ⟨k1, k2⟩ := dps_of xs vs ps k hp
     exact ⟨.tup (.inl q) k1, by unfold PyData.canLay0; exact k2⟩
 | .lst xs, v, p, h, e => by
   obtain ⟨a, vs, rfl, _, q, k⟩ := rd_lst.mp h
   unfold D.py at e
   cases hp : D.pys xs with
   | none => rw [hp] at e; cases e
   | some ps =>
     rw [hp] at e; cases e
     obtain ⟨k1, k2⟩ := dps_of xs vs ps k hp
     exact ⟨.lst (.inl (.inl q)) k1, by unfold PyData.canLay0; exact k2⟩
 | .scr xs, v, p, h, e => by
   obtain ⟨a, vs, rfl, q, k⟩ := rd_scr.mp h
   unfold D.py at e
   cases hp : D.pys xs with
   | none => rw [hp] at e; cases e
   | some ps =>
     rw [hp] at e; cases e
     obtain ⟨k1, k2⟩ := dps_of xs vs ps k hp
     exact ⟨.lst (scL q) k1, by unfold PyData.canLay0; exact k2⟩
 | .tupN _, _, _, _, e => by unfold D.py at e; cases e
 | .obj _ _, _, _, _, e => by unfold D.py at e; cases e
 | .dic _ _, _, _, _, e => by unfold D.py at e; cases e
 | .dit _ _, _, _, _, e => by unfold D.py at e; cases e
 | .cls _, _, _, _, e => by unfold D.py at e; cases e
theorem dps_of : ∀ (ds : List D) (vs : List V) (ps : List PyData), RDs g U H ds vs → D.pys ds = some ps → DpAll g.K H vs ps ∧ PyData.canLayAll0 ps = true
 | [], vs, ps, h, e => by
   rw [rds_nil.mp h]; unfold D.pys at e; cases e; exact ⟨.nil, rfl⟩
 | d :: ds, vs, ps, h, e => by
   obtain ⟨v, vs', rfl, r, q⟩ := rds_cons.mp h
   unfold D.pys at e
   cases hp : D.py d with
   | none => rw [hp] at e; cases e
   | some p =>
     rw [hp] at e
     cases hq : D.pys ds with
     | none => rw [hq] at e; cases e
     | some qs =>
       rw [hq] at e; cases e
       obtain ⟨k1, k2⟩ := dp_of d v p r hp
       obtain ⟨k3, k4⟩ := dps_of ds vs' qs q hq
       exact ⟨.cons k1 k3, by unfold PyData.canLayAll0; rw [k2, k4]; rfl⟩
end
end
def peq (x y : D) : Option Bool :=
 match x.py, y.py with
 | some p, some q => if p.depth ≤ 64 ∧ q.depth ≤ 64 then some (PyData.eqv p q) else none
 | _, _ => none
section
variable {g : G} {F : Fr} {X : Cx} {W : WX} {a b c : Expr} {da db dc : DE} {pos : Pos}
def dVar (i : Nat) : DE := fun s h => match s[i]? with
 | some (some z) => .ok z h
 | _ => .bad
def dC (x : D) : DE := fun _ h => .ok (.d x) h
theorem z_var (i : Nat) {x : Str} (hN : X.N[i]? = some x := by rfl) (hv : Vis X.env.scope x := by first | exact Or.inl rfl | exact Or.inr (Or.inl rfl) | exact Or.inr (Or.inr rfl))
   (hd : (x == ("__debug__" : Str)) = false := by decide) (hcd : (x == ("__classdict__" : Str)) = false := by decide) : ZE g F X W (.Name x pos) (dVar i) := by
 refine PE.imp (pe_var hN hv hd hcd) fun σ H Q ⟨ρ, zσ, zh, RH, RS, p⟩ => ?_
 unfold dVar at p
 cases e : zσ[i]? with
 | none => rw [e] at p; exact p.elim
 | some o =>
   rw [e] at p
   cases o with
   | none => exact p.elim
   | some z =>
     obtain ⟨v, h1, h2⟩ := RS.2 i z e
     exact ⟨v, h1, Post.done RH p h2⟩
theorem z_c {e : Expr} {x : D} {v : V} (h : PE X e (tC v)) (k : ∀ (U : Addr → Prop) (H : Hp), RD g U H x v) : ZE g F X W e (dC x) :=
 PE.imp h fun σ H Q ⟨ρ, zσ, zh, RH, RS, p⟩ => Post.done RH p (k _ _)
theorem z_int {i : Int} {j : Nat} : ZE g F X W (.Constant (.int i) j pos) (dC (.int i)) := z_c pe_int fun _ _ => rd_int.mpr rfl
theorem z_bl {b : Bool} {j : Nat} : ZE g F X W (.Constant (.bool b) j pos) (dC (.bl b)) := z_c pe_bl fun _ _ => rd_bl.mpr rfl
def sOkB (s : List Nat) : Bool := s.all (fun c => decide (c < 1114112)) && decide (s.length ≤ 1000000)
theorem SOk.of {s : List Nat} (h : sOkB s = true) : SOk s := by
 unfold sOkB at h
 simp only [Bool.and_eq_true, List.all_eq_true, decide_eq_true_eq] at h
 exact ⟨h.1, by have := h.2; rw [sizeLine_eq]; omega⟩
theorem z_str (s : List Nat) {x : Str} {j : Nat} (h : x = mkS s := by decide +kernel) (ok : sOkB s = true := by decide +kernel) : ZE g F X W (.Constant (.str x) j pos) (dC (.str s)) := by
 subst h
 exact z_c pe_str fun _ _ => rd_str.mpr ⟨rfl, .of ok⟩
abbrev Op2 := Z → Z → ZH → Out Z
def dBin (op : Op2) (da db : DE) : DE := fun s h => (da s h).bnd fun x h1 => (db s h1).bnd fun y h2 => op x y h2
def LowR2 (g : G) (r : R2) (op : Op2) : Prop := ∀ {F : Fr} {W : WX} {ρ : List Addr} {zσ : ZS} {zh : ZH} {σ : L2.St} {H : Hp} {zx zy : Z} {x y : V} {Q : VK},
 RelH g F ρ zh H → RZ g (UO F ρ zh) H ρ zx x → RZ g (UO F ρ zh) H ρ zy y → Post g F W ρ zσ zh σ H (op zx zy zh) Q → r x y H Q
theorem low_bin {r : R2} {op : Op2} (hl : LowR2 g r op) {σ : L2.St} {H : Hp} {Q : VK} (h : low g F W (dBin op da db) σ H Q) : tOp r (low g F W da) (low g F W db) σ H Q := by
 obtain ⟨ρ, zσ, zh, RH, RS, p⟩ := h
 refine ⟨ρ, zσ, zh, RH, RS, Post.bnd p fun ρ1 x zh1 v H1 e1 R1 rx p1 => ?_⟩
 refine ⟨ρ1, zσ, zh1, R1, RS.mono e1, Post.bnd p1 fun ρ2 y zh2 u H2 e2 R2 ry p2 => ?_⟩
 exact hl R2 (RZ.mono e2.stb e2.pre rx) ry p2
theorem z_op {op : Operator} {r : R2} {zop : Op2} (ho : OpR X (binaryOp op) r) (hl : LowR2 g r zop) (ha : ZE g F X W a da) (hb : ZE g F X W b db) : ZE g F X W (.BinOp a op b pos) (dBin zop da db) :=
 PE.imp (pe_op ho ha hb) fun _ _ _ h => low_bin hl h
theorem z_cmp {op : CmpOp} {r : R2} {zop : Op2} (ho : OpR X (compareOp op) r) (hl : LowR2 g r zop) (ha : ZE g F X W a da) (hb : ZE g F X W b db)
   (hm : behindInMarks op b = false := by first | exact nomark _ (by decide) (by decide) | rfl) : ZE g F X W (.Compare a [op] [b] pos) (dBin zop da db) :=
 PE.imp (pe_cmpR ho ha hb hm) fun _ _ _ h => low_bin hl h
theorem LowR2.or {r r' : R2} {op op' : Op2} (h : LowR2 g r op) (h' : LowR2 g r' op') : LowR2 g (fun x y H Q => r x y H Q ∨ r' x y H Q) (fun x y h => match op x y h with | .bad => op' x y h | o => o) := by
 intro F W ρ zσ zh σ H zx zy x y Q RH rx ry p
 dsimp only at p
 cases e : op zx zy zh with
 | bad => rw [e] at p; exact .inr (h' RH rx ry p)
 | ok z h1 => rw [e] at p; exact .inl (h (σ := σ) RH rx ry (by rw [e]; exact p))
 | exc z h1 => rw [e] at p; exact .inl (h (σ := σ) RH rx ry (by rw [e]; exact p))
def opII (c : Int → Int → Bool) (f : Int → Int → D) : Op2 := fun x y h => match x, y with
 | .d (.int i), .d (.int j) => if c i j = true then .ok (.d (f i j)) h else .bad
 | _, _ => .bad
theorem low_II {c : Int → Int → Bool} {f : Int → Int → D} {r : R2} (k : ∀ i j H Q v, c i j = true → (∀ (U : Addr → Prop), RD g U H (f i j) v) → Q v H → r (.int i) (.int j) H Q)
   (hv : ∀ i j, ∃ v, ∀ (U : Addr → Prop) (H : Hp), RD g U H (f i j) v) : LowR2 g r (opII c f) := by
 intro F W ρ zσ zh σ H zx zy x y Q RH rx ry p
 unfold opII at p
 split at p
 · rename_i i j
   rw [rz_int.mp rx, rz_int.mp ry]
   split at p
   · rename_i hc
     obtain ⟨v, hv⟩ := hv i j
     exact k i j H Q v hc (fun U => hv U H) (Post.done RH p (hv _ _))
   · exact p.elim
 · exact p.elim
theorem low_int0 {f : Int → Int → Int} : LowR2 g (rI0 fun i j => .int (f i j)) (opII (fun _ _ => true) fun i j => .int (f i j)) :=
 low_II (fun i j H Q v _ h q => ⟨i, j, rfl, rfl, by have e := rd_int.mp (h fun _ => True); subst e; exact q⟩) fun i j => ⟨_, fun _ _ => rd_int.mpr rfl⟩
theorem low_intC {C : Int → Int → Prop} {c : Int → Int → Bool} {f : Int → Int → Int} (hc : ∀ i j, c i j = true → C i j) : LowR2 g (rI C fun i j => .int (f i j)) (opII c fun i j => .int (f i j)) :=
 low_II (fun i j H Q v k h q => ⟨i, j, rfl, rfl, hc i j k, by have e := rd_int.mp (h fun _ => True); subst e; exact q⟩) fun i j => ⟨_, fun _ _ => rd_int.mpr rfl⟩
theorem low_bl0 {f : Int → Int → Bool} : LowR2 g (rI0 fun i j => .bl (f i j)) (opII (fun _ _ => true) fun i j => .bl (f i j)) :=
 low_II (fun i j H Q v _ h q => ⟨i, j, rfl, rfl, by have e := rd_bl.mp (h fun _ => True); subst e; exact q⟩) fun i j => ⟨_, fun _ _ => rd_bl.mpr rfl⟩
def opSub : Op2 := opII (fun _ _ => true) fun i j => .int (i - j)
def opMul : Op2 := opII (fun i j => decide (i.natAbs < 18446744073709551616) || decide (j.natAbs < 18446744073709551616)) fun i j => .int (i * j)
def opMod : Op2 := opII (fun _ j => decide (0 < j)) fun i j => .int (i % j)
def opDiv : Op2 := opII (fun _ j => decide (0 < j) && decide (j < 1073741824)) fun i j => .int (i / j)
def opPow : Op2 := opII (fun i j => decide (0 ≤ j) && decide (j ≤ 1000000) && decide (i.natAbs < 18446744073709551616)) fun i j => .int (i ^ j.toNat)
def opLt : Op2 := opII (fun _ _ => true) fun i j => .bl (decide (i < j))
def opLe : Op2 := opII (fun _ _ => true) fun i j => .bl (decide (i ≤ j))
def opGt : Op2 := opII (fun _ _ => true) fun i j => .bl (decide (j < i))
def opGe : Op2 := opII (fun _ _ => true) fun i j => .bl (decide (j ≤ i))
theorem z_sub (ha : ZE g F X W a da) (hb : ZE g F X W b db) : ZE g F X W (.BinOp a .Sub b pos) (dBin opSub da db) := z_op op_sub low_int0 ha hb
theorem z_mod (ha : ZE g F X W a da) (hb : ZE g F X W b db) : ZE g F X W (.BinOp a .Mod b pos) (dBin opMod da db) := z_op op_mod (low_intC fun i j h => by simpa using h) ha hb
theorem z_div (ha : ZE g F X W a da) (hb : ZE g F X W b db) : ZE g F X W (.BinOp a .FloorDiv b pos) (dBin opDiv da db) := z_op op_fdiv (low_intC fun i j h => by simpa [CDiv] using h) ha hb
theorem z_pow (ha : ZE g F X W a da) (hb : ZE g F X W b db) : ZE g F X W (.BinOp a .Pow b pos) (dBin opPow da db) := z_op op_pow (low_intC fun i j h => by
 simp only [Bool.and_eq_true, decide_eq_true_eq] at h
 exact ⟨h.1.1, h.1.2, h.2⟩) ha hb
theorem cmul_of {i j : Int} (h : (decide (i.natAbs < 18446744073709551616) || decide (j.natAbs < 18446744073709551616)) = true) : CMul i j := by
 simp only [Bool.or_eq_true, decide_eq_true_eq] at h
 rcases h with h | h
 · exact .inl ⟨by omega, by omega⟩
 · exact .inr ⟨by omega, by omega⟩
theorem viewD_ok {ρ : List Addr} {zh : ZH} {H : Hp} (r : RelH g F ρ zh H) {z : Z} {v : V} (rz : RZ g (UO F ρ zh) H ρ z v) {x : D} {p : PyData} (h : viewD z zh = some x) (e : x.py = some p) : Dp g.K H v p ∧ p.canLay0 = true := by
 unfold viewD at h
 split at h
 · cases h; exact dp_of _ _ _ rz e
 · rename_i i
   obtain ⟨a, e1, k⟩ := rz
   cases hz : zh[i]? with
   | none => rw [hz] at h; cases h
   | some o =>
     rw [hz] at h
     cases o with
     | dl ys =>
       cases h
       obtain ⟨vs, q, z⟩ := r.own i a _ e1 hz
       unfold D.py at e
       cases hp : D.pys ys with
       | none => rw [hp] at e; cases e
       | some ps =>
         rw [hp] at e; cases e
         obtain ⟨k1, k2⟩ := dps_of ys vs ps z hp
         rw [k]
         exact ⟨.lst (SqL.of q) k1, by unfold PyData.canLay0; exact k2⟩
     | _ => cases h
 · cases h
theorem shaped_of {p : PyData} (h : p.canLay0 = true) (d : p.depth ≤ 64) : SeqAt.shaped p = true := by
 unfold SeqAt.shaped
 rw [h, decide_eq_true d]
 rfl
def opEq (neg : Bool) : Op2 := fun x y h => match viewD x h, viewD y h with
 | some p, some q => match peq p q with
   | some k => .ok (.d (.bl (if neg then !k else k))) h
   | none => .bad
 | _, _ => .bad
theorem low_eqN {neg : Bool} : LowR2 g (fun x y H Q => ∃ d e, Dp g.K H x d ∧ Dp g.K H y e ∧ SeqAt.shaped d = true ∧ SeqAt.shaped e = true ∧ Q (.bl (if neg then !PyData.eqv d e else PyData.eqv d e)) H) (opEq neg) := by
 intro F W ρ zσ zh σ H zx zy x y Q RH rx ry p
 unfold opEq at p
 cases hx : viewD zx zh with
 | none => rw [hx] at p; exact p.elim
 | some d =>
   cases hy : viewD zy zh with
   | none => rw [hx, hy] at p; exact p.elim
   | some e =>
     rw [hx, hy] at p
     cases k : peq d e with
     | none => simp only [k] at p; exact p.elim
     | some kk =>
       simp only [k] at p
       unfold peq at k
       cases px : d.py with
       | none => rw [px] at k; cases k
       | some dp =>
         cases py : e.py with
         | none => rw [px, py] at k; cases k
         | some ep =>
           rw [px, py] at k
           simp only at k
           split at k
           · rename_i hd
             cases k
             obtain ⟨k1, k2⟩ := viewD_ok RH rx hx px
             obtain ⟨k3, k4⟩ := viewD_ok RH ry hy py
             exact ⟨dp, ep, k1, k3, shaped_of k2 hd.1, shaped_of k4 hd.2, Post.done RH p (rz_bl.mpr rfl)⟩
           · cases k
theorem z_eq {k : Nat} (hK : X.K = g.K) (hr : Room k X.A) (ha : ZE g F X W a da) (hb : ZE g F X W b db) : ZE g F X W (.Compare a [.Eq] [b] pos) (dBin (opEq false) da db) :=
 z_cmp (op_eqD hr.units) (by rw [hK]; exact low_eqN) ha hb
end
end Zl
end
section
namespace Zl
open PySem PySem.Spec PyProof.Rows L2
section
variable {g : G} {F : Fr} {X : Cx} {W : WX} {a b c : Expr} {da db dc : DE} {pos : Pos}
section
variable {ρ ρ1 : List Addr} {zσ : ZS} {zh zh1 : ZH} {σ : L2.St} {H H1 : Hp}
def PostT (g : G) (F : Fr) (W : WX) (ρ : List Addr) (zσ : ZS) (zh : ZH) (σ : L2.St) (H : Hp) (out : Out Bool) (Q : Bool → Hp → Prop) : Prop :=
 match out with
 | .ok b zh' => ∀ ρ' H', Ext F ρ zh H ρ' zh' H' → RelH g F ρ' zh' H' → Q b H'
 | .exc x zh' => ∀ ρ' cls dx H', Ext F ρ zh H ρ' zh' H' → RelH g F ρ' zh' H' → RX g (UO F ρ' zh') H' x cls dx → W cls dx σ H'
 | .bad => False
theorem PostT.shift (e : Ext F ρ zh H ρ1 zh1 H1) {out : Out Bool} {Q : Bool → Hp → Prop} (p : PostT g F W ρ zσ zh σ H out Q) : PostT g F W ρ1 zσ zh1 σ H1 out Q := by
 cases out with
 | ok z h => exact fun ρ' H' e' => p ρ' H' (e.trans e')
 | exc x h => exact fun ρ' c d H' e' => p ρ' c d H' (e.trans e')
 | bad => exact p
theorem PostT.bnd {out : Out Bool} {f : Bool → ZH → Out Bool} {Q K : Bool → Hp → Prop} (p : PostT g F W ρ zσ zh σ H (out.bnd f) Q)
   (h : ∀ ρ1 z zh1 H1, Ext F ρ zh H ρ1 zh1 H1 → RelH g F ρ1 zh1 H1 → PostT g F W ρ1 zσ zh1 σ H1 (f z zh1) Q → K z H1) : PostT g F W ρ zσ zh σ H out K := by
 cases out with
 | ok z zh1 => exact fun ρ' H' e1 e2 => h ρ' z zh1 H' e1 e2 (PostT.shift e1 p)
 | exc x h => exact p
 | bad => exact p
theorem PostT.bndE {out : Out Bool} {f : Bool → ZH → Out Z} {Q : VK} {K : Bool → Hp → Prop} (p : Post g F W ρ zσ zh σ H (out.bnd f) Q)
   (h : ∀ ρ1 z zh1 H1, Ext F ρ zh H ρ1 zh1 H1 → RelH g F ρ1 zh1 H1 → Post g F W ρ1 zσ zh1 σ H1 (f z zh1) Q → K z H1) : PostT g F W ρ zσ zh σ H out K := by
 cases out with
 | ok z zh1 => exact fun ρ' H' e1 e2 => h ρ' z zh1 H' e1 e2 (Post.shift e1 p)
 | exc x h => exact p
 | bad => exact p
theorem Post.bndT {out : Out Z} {f : Z → ZH → Out Bool} {Q : Bool → Hp → Prop} {K : VK} (p : PostT g F W ρ zσ zh σ H (out.bnd f) Q)
   (h : ∀ ρ1 z zh1 v H1, Ext F ρ zh H ρ1 zh1 H1 → RelH g F ρ1 zh1 H1 → RZ g (UO F ρ1 zh1) H1 ρ1 z v → PostT g F W ρ1 zσ zh1 σ H1 (f z zh1) Q → K v H1) : Post g F W ρ zσ zh σ H out K := by
 cases out with
 | ok z zh1 => exact fun ρ' v H' e1 e2 e3 => h ρ' z zh1 v H' e1 e2 e3 (PostT.shift e1 p)
 | exc x h => exact p
 | bad => exact p
theorem PostT.done (r : RelH g F ρ zh H) {b : Bool} {Q : Bool → Hp → Prop} (p : PostT g F W ρ zσ zh σ H (.ok b zh) Q) : Q b H := p ρ H Ext.refl r
end
def lowT (g : G) (F : Fr) (W : WX) (d : DT) : TT := fun σ H Q => ∃ ρ zσ zh, RelH g F ρ zh H ∧ RelS g (UO F ρ zh) H ρ zσ σ ∧ PostT g F W ρ zσ zh σ H (d zσ zh) Q
def ZT (g : G) (F : Fr) (X : Cx) (W : WX) (e : Expr) (d : DT) : Prop := PT X e (lowT g F W d)
def ZW (g : G) (F : Fr) (X : Cx) (W : WX) (e : Expr) (d : DT) : Prop := PW X e (lowT g F W d)
theorem PT.imp {X : Cx} {e : Expr} {t t' : TT} (h : PT X e t) (k : ∀ σ H Q, t' σ H Q → t σ H Q) : PT X e t' := ⟨fun pins s σ H Q I q => h.run pins s σ H Q I (k σ H Q q)⟩
theorem PW.imp {X : Cx} {e : Expr} {t t' : TT} (h : PW X e t) (k : ∀ σ H Q, t' σ H Q → t σ H Q) : PW X e t' := ⟨fun wh pins s σ H Q I q => h.run wh pins s σ H Q I (k σ H Q q)⟩
def truthZ (z : Z) (h : ZH) : Option Bool :=
 match z with
 | .d .non => some false
 | .d (.bl b) => some b
 | .d (.int i) => some (i != 0)
 | .d (.str s) => some (!s.isEmpty)
 | .d (.lst xs) => some (!xs.isEmpty)
 | .d (.tup xs) => some (!xs.isEmpty)
 | .r i => match h[i]? with
   | some (.dl xs) => some (!xs.isEmpty)
   | _ => none
 | _ => none
def dTest (d : DE) : DT := fun s h => (d s h).bnd fun z h1 => match truthZ z h1 with
 | some b => .ok b h1
 | none => .bad
theorem isEmpty_rds {U : Addr → Prop} {H : Hp} {xs : List D} {vs : List V} (h : RDs g U H xs vs) : (!xs.isEmpty) = !vs.isEmpty := by
 have := h.length
 cases xs <;> cases vs <;> simp_all
theorem truthZ_ok {ρ : List Addr} {zh : ZH} {H : Hp} (r : RelH g F ρ zh H) {z : Z} {v : V} (rz : RZ g (UO F ρ zh) H ρ z v) {k : Bool} (h : truthZ z zh = some k) : TruV g.K v H k := by
 unfold truthZ at h
 split at h
 · cases h; rw [rz_non.mp rz]; exact rfl
 · cases h; rw [rz_bl.mp rz]; exact rfl
 · cases h; rw [rz_int.mp rz]; exact rfl
 · rename_i s
   cases h
   obtain ⟨e, ok⟩ := rz_str.mp rz
   rw [e]
   refine ⟨by show (mkS s).length ≤ sizeLine; have := ok.2; simpa [mkS, Str.length] using this, ?_⟩
   cases s with
   | nil => rfl
   | cons c s =>
     have : ((mkS (c :: s)).length : Int) = (s.length : Int) + 1 := by simp [mkS, Str.length]
     rw [this]
     have h2 : ((s.length : Int) + 1 != 0) = true := by
       rw [bne_iff_ne]; omega
     rw [h2]; rfl
 · cases h
   obtain ⟨a, vs, e, _, q, k⟩ := rd_lst.mp rz
   rw [e]
   exact .inl ⟨vs, SqL.of q, isEmpty_rds k⟩
 · cases h
   obtain ⟨a, vs, e, _, q, k⟩ := rd_tup.mp rz
   rw [e]
   exact .inr (.inl ⟨vs, .inl q, isEmpty_rds k⟩)
 · rename_i i
   obtain ⟨a, e, k⟩ := rz
   cases hz : zh[i]? with
   | none => rw [hz] at h; cases h
   | some o =>
     rw [hz] at h
     cases o with
     | dl ys =>
       cases h
       obtain ⟨vs, q, z⟩ := r.own i a _ e hz
       rw [k]
       exact .inl ⟨vs, SqL.of q, isEmpty_rds z⟩
     | _ => cases h
 · cases h
theorem zt_truth (hK : X.K = g.K) (ha : ZE g F X W a da) (he : ∀ whole, isTrue a X.env whole = (do let v ← whole; standAt a.pos; holding [v] (truthy v)) := by intro _; rfl) : ZT g F X W a (dTest da) := by
 refine PT.imp (pt_truth ha he) fun σ H Q ⟨ρ, zσ, zh, RH, RS, p⟩ => ?_
 refine ⟨ρ, zσ, zh, RH, RS, Post.bndT p fun ρ1 z zh1 v H1 e1 R1 rz p1 => ?_⟩
 cases hz : truthZ z zh1 with
 | none => simp only [hz] at p1; exact p1.elim
 | some k =>
   simp only [hz] at p1
   exact ⟨k, by rw [hK]; exact truthZ_ok R1 rz hz, PostT.done R1 p1⟩
def dCmpT (op : Op2) (da db : DE) : DT := fun s h => (da s h).bnd fun x h1 => (db s h1).bnd fun y h2 => (op x y h2).bnd fun z h3 => match z with
 | .d (.bl b) => .ok b h3
 | _ => .bad
theorem zt_cmp {op : CmpOp} {r : R2} {zop : Op2} (ho : OpR X (compareOp op) r) (hl : LowR2 g r zop) (ha : ZE g F X W a da) (hb : ZE g F X W b db)
   (hm : behindInMarks op b = false := by first | exact nomark _ (by decide) (by decide) | rfl) : ZT g F X W (.Compare a [op] [b] pos) (dCmpT zop da db) := by
 refine PT.imp (pt_cmpR ho ha hb hm) fun σ H Q ⟨ρ, zσ, zh, RH, RS, p⟩ => ?_
 refine ⟨ρ, zσ, zh, RH, RS, Post.bndT p fun ρ1 x zh1 v H1 e1 R1 rx p1 => ?_⟩
 refine ⟨ρ1, zσ, zh1, R1, RS.mono e1, Post.bndT p1 fun ρ2 y zh2 u H2 e2 R2 ry p2 => ?_⟩
 refine hl R2 (RZ.mono e2.stb e2.pre rx) ry (Post.bndT (zσ := zσ) (W := W) (σ := σ) p2 fun ρ3 z zh3 w H3 e3 R3 rz p3 => ?_)
 cases z with
 | r i => exact p3.elim
 | e a => exact p3.elim
 | d z =>
   cases z with
   | bl k => exact ⟨k, rz_bl.mp rz, PostT.done R3 p3⟩
   | _ => exact p3.elim
theorem zt_eq {k : Nat} (hK : X.K = g.K) (hr : Room k X.A) (ha : ZE g F X W a da) (hb : ZE g F X W b db) : ZT g F X W (.Compare a [.Eq] [b] pos) (dCmpT (opEq false) da db) :=
 zt_cmp (op_eqD hr.units) (by rw [hK]; exact low_eqN) ha hb
theorem zt_ne {k : Nat} (hK : X.K = g.K) (hr : Room k X.A) (ha : ZE g F X W a da) (hb : ZE g F X W b db) : ZT g F X W (.Compare a [.NotEq] [b] pos) (dCmpT (opEq true) da db) :=
 zt_cmp (op_neD hr.units) (by rw [hK]; exact low_eqN) ha hb
theorem zt_lt (ha : ZE g F X W a da) (hb : ZE g F X W b db) : ZT g F X W (.Compare a [.Lt] [b] pos) (dCmpT opLt da db) := zt_cmp op_lt low_bl0 ha hb
theorem zt_gt (ha : ZE g F X W a da) (hb : ZE g F X W b db) : ZT g F X W (.Compare a [.Gt] [b] pos) (dCmpT opGt da db) := zt_cmp op_gt low_bl0 ha hb
theorem zt_ge (ha : ZE g F X W a da) (hb : ZE g F X W b db) : ZT g F X W (.Compare a [.GtE] [b] pos) (dCmpT opGe da db) := zt_cmp op_ge low_bl0 ha hb
def dChain (op op' : Op2) (da db dc : DE) : DE := fun s h => (da s h).bnd fun x h1 => (db s h1).bnd fun y h2 => (op x y h2).bnd fun z h3 => match z with
 | .d (.bl true) => (dc s h3).bnd fun w h4 => op' y w h4
 | .d (.bl false) => .ok (.d (.bl false)) h3
 | _ => .bad
theorem low_chain {r r' : R2} {op op' : Op2} (hl : LowR2 g r op) (hl' : LowR2 g r' op') {σ : L2.St} {H : Hp} {Q : VK} (h : low g F W (dChain op op' da db dc) σ H Q) :
   tChain r r' (low g F W da) (low g F W db) (low g F W dc) σ H Q := by
 obtain ⟨ρ, zσ, zh, RH, RS, p⟩ := h
 refine ⟨ρ, zσ, zh, RH, RS, Post.bnd p fun ρ1 x zh1 v H1 e1 R1 rx p1 => ?_⟩
 refine ⟨ρ1, zσ, zh1, R1, RS.mono e1, Post.bnd p1 fun ρ2 y zh2 u H2 e2 R2 ry p2 => ?_⟩
 refine hl R2 (RZ.mono e2.stb e2.pre rx) ry (Post.bnd (zσ := zσ) (W := W) (σ := σ) p2 fun ρ3 z zh3 w H3 e3 R3 rz p3 => ?_)
 cases z with
 | r i => exact p3.elim
 | e a => exact p3.elim
 | d z =>
   cases z with
   | bl k =>
     refine ⟨k, rz_bl.mp rz, ?_⟩
     cases k with
     | false => exact iteF (Post.done R3 p3 (rz_bl.mpr rfl))
     | true =>
       refine iteT ⟨ρ3, zσ, zh3, R3, (RS.mono e1).mono (e2.trans e3), Post.bnd p3 fun ρ4 w' zh4 v4 H4 e4 R4 rw4 p4 => ?_⟩
       exact hl' R4 (RZ.mono (e3.trans e4).stb (e3.trans e4).pre ry) rw4 p4
   | _ => exact p3.elim
def dBoolT (d : DE) : DT := fun s h => (d s h).bnd fun z h1 => match z with
 | .d (.bl b) => .ok b h1
 | _ => .bad
theorem zt_chain {op op' : CmpOp} {r r' : R2} {zop zop' : Op2} (ho : OpR X (compareOp op) r) (ho' : OpR X (compareOp op') r') (hl : LowR2 g r zop) (hl' : LowR2 g r' zop') (ha : ZE g F X W a da) (hb : ZE g F X W b db) (hc : ZE g F X W c dc)
   (hm : lastMarks [op, op'] [b, c] = false := by with_unfolding_all rfl) : ZT g F X W (.Compare a [op, op'] [b, c] pos) (dBoolT (dChain zop zop' da db dc)) := by
 refine PT.imp (pt_chain ho ho' ha hb hc hm) fun σ H Q ⟨ρ, zσ, zh, RH, RS, p⟩ => ?_
 refine low_chain (W := W) (F := F) hl hl' ⟨ρ, zσ, zh, RH, RS, Post.bndT p fun ρ1 z zh1 v H1 e1 R1 rz p1 => ?_⟩
 cases z with
 | r i => exact p1.elim
 | e a => exact p1.elim
 | d z =>
   cases z with
   | bl k => exact ⟨k, rz_bl.mp rz, PostT.done R1 p1⟩
   | _ => exact p1.elim
theorem zt_leLt (ha : ZE g F X W a da) (hb : ZE g F X W b db) (hc : ZE g F X W c dc) (hm : lastMarks [.LtE, .Lt] [b, c] = false := by with_unfolding_all rfl) : ZT g F X W (.Compare a [.LtE, .Lt] [b, c] pos) (dBoolT (dChain opLe opLt da db dc)) := zt_chain op_le op_lt low_bl0 low_bl0 ha hb hc hm
variable {ta tb : DT} {rest : List Expr}
def dOr (ta tb : DT) : DT := fun s h => (ta s h).bnd fun b h1 => if b = true then .ok true h1 else tb s h1
def dNot (ta : DT) : DT := fun s h => (ta s h).bnd fun b h1 => .ok (!b) h1
theorem zw_or1 (ha : ZT g F X W a ta) : ZW g F X W (.BoolOp .Or [a] pos) ta := pw_or1 ha
theorem zw_or (ha : ZT g F X W a ta) (hb : ZW g F X W (.BoolOp .Or (b :: rest) pos) tb) : ZW g F X W (.BoolOp .Or (a :: b :: rest) pos) (dOr ta tb) := by
 refine PW.imp (pw_or ha hb) fun σ H Q ⟨ρ, zσ, zh, RH, RS, p⟩ => ?_
 refine ⟨ρ, zσ, zh, RH, RS, PostT.bnd p fun ρ1 k zh1 H1 e1 R1 p1 => ?_⟩
 cases k with
 | true => exact iteT (PostT.done R1 p1)
 | false => exact iteF ⟨ρ1, zσ, zh1, R1, RS.mono e1, p1⟩
theorem zt_w (h : ZW g F X W a ta) : ZT g F X W a ta := PW.pt h
theorem zt_not (ha : ZT g F X W a ta) : ZT g F X W (.UnaryOp .Not a pos) (dNot ta) := by
 refine PT.imp (pt_not ha) fun σ H Q ⟨ρ, zσ, zh, RH, RS, p⟩ => ?_
 exact ⟨ρ, zσ, zh, RH, RS, PostT.bnd p fun ρ1 k zh1 H1 e1 R1 p1 => PostT.done R1 p1⟩
def dAndV (da db : DE) : DE := fun s h => (da s h).bnd fun z h1 => match z with
 | .d (.bl true) => db s h1
 | .d (.bl false) => .ok (.d (.bl false)) h1
 | _ => .bad
def dNotV (da : DE) : DE := fun s h => (da s h).bnd fun z h1 => match z with
 | .d (.bl b) => .ok (.d (.bl (!b))) h1
 | _ => .bad
theorem z_one {op : BoolOp} (ha : ZE g F X W a da) : ZE g F X W (.BoolOp op [a] pos) da := pe_one ha
theorem z_and (ha : ZE g F X W a da) (hb : ZE g F X W (.BoolOp .And (b :: rest) pos) db) : ZE g F X W (.BoolOp .And (a :: b :: rest) pos) (dAndV da db) := by
 refine PE.imp (pe_and ha hb) fun σ H Q ⟨ρ, zσ, zh, RH, RS, p⟩ => ?_
 refine ⟨ρ, zσ, zh, RH, RS, Post.bnd p fun ρ1 z zh1 v H1 e1 R1 rz p1 => ?_⟩
 cases z with
 | r i => exact p1.elim
 | e a => exact p1.elim
 | d z =>
   cases z with
   | bl k =>
     refine ⟨k, rz_bl.mp rz, ?_⟩
     cases k with
     | true => exact iteT ⟨ρ1, zσ, zh1, R1, RS.mono e1, p1⟩
     | false => exact iteF (Post.done R1 p1 (rz_bl.mpr rfl))
   | _ => exact p1.elim
theorem z_not (ha : ZE g F X W a da) : ZE g F X W (.UnaryOp .Not a pos) (dNotV da) := by
 refine PE.imp (pe_not ha) fun σ H Q ⟨ρ, zσ, zh, RH, RS, p⟩ => ?_
 refine ⟨ρ, zσ, zh, RH, RS, Post.bnd p fun ρ1 z zh1 v H1 e1 R1 rz p1 => ?_⟩
 cases z with
 | r i => exact p1.elim
 | e a => exact p1.elim
 | d z =>
   cases z with
   | bl k => exact ⟨k, rz_bl.mp rz, Post.done R1 p1 (rz_bl.mpr rfl)⟩
   | _ => exact p1.elim
end
end Zl
end
section
namespace Zl
open PySem PySem.Spec PyProof.Rows L2
section
variable {g : G} {F : Fr} {X : Cx} {W : WX} {a b c e : Expr} {es : List Expr} {da db dc : DE} {pos : Pos}
def PostA (g : G) (F : Fr) (W : WX) (ρ : List Addr) (zσ : ZS) (zh : ZH) (σ : L2.St) (H : Hp) (out : Out (List Z)) (Q : List V → Hp → Prop) : Prop :=
 match out with
 | .ok zs zh' => ∀ ρ' vs H', Ext F ρ zh H ρ' zh' H' → RelH g F ρ' zh' H' → RZs g (UO F ρ' zh') H' ρ' zs vs → Q vs H'
 | .exc x zh' => ∀ ρ' cls dx H', Ext F ρ zh H ρ' zh' H' → RelH g F ρ' zh' H' → RX g (UO F ρ' zh') H' x cls dx → W cls dx σ H'
 | .bad => False
section
variable {ρ ρ1 : List Addr} {zσ : ZS} {zh zh1 : ZH} {σ : L2.St} {H H1 : Hp}
theorem PostA.shift (e : Ext F ρ zh H ρ1 zh1 H1) {out : Out (List Z)} {Q : List V → Hp → Prop} (p : PostA g F W ρ zσ zh σ H out Q) : PostA g F W ρ1 zσ zh1 σ H1 out Q := by
 cases out with
 | ok z h => exact fun ρ' v H' e' => p ρ' v H' (e.trans e')
 | exc x h => exact fun ρ' c d H' e' => p ρ' c d H' (e.trans e')
 | bad => exact p
theorem Post.bndA {out : Out Z} {f : Z → ZH → Out (List Z)} {Q : List V → Hp → Prop} {K : VK} (p : PostA g F W ρ zσ zh σ H (out.bnd f) Q)
   (h : ∀ ρ1 z zh1 v H1, Ext F ρ zh H ρ1 zh1 H1 → RelH g F ρ1 zh1 H1 → RZ g (UO F ρ1 zh1) H1 ρ1 z v → PostA g F W ρ1 zσ zh1 σ H1 (f z zh1) Q → K v H1) : Post g F W ρ zσ zh σ H out K := by
 cases out with
 | ok z zh1 => exact fun ρ' v H' e1 e2 e3 => h ρ' z zh1 v H' e1 e2 e3 (PostA.shift e1 p)
 | exc x h => exact p
 | bad => exact p
theorem PostA.bnd {out : Out (List Z)} {f : List Z → ZH → Out (List Z)} {Q K : List V → Hp → Prop} (p : PostA g F W ρ zσ zh σ H (out.bnd f) Q)
   (h : ∀ ρ1 z zh1 v H1, Ext F ρ zh H ρ1 zh1 H1 → RelH g F ρ1 zh1 H1 → RZs g (UO F ρ1 zh1) H1 ρ1 z v → PostA g F W ρ1 zσ zh1 σ H1 (f z zh1) Q → K v H1) : PostA g F W ρ zσ zh σ H out K := by
 cases out with
 | ok z zh1 => exact fun ρ' v H' e1 e2 e3 => h ρ' z zh1 v H' e1 e2 e3 (PostA.shift e1 p)
 | exc x h => exact p
 | bad => exact p
theorem PostA.bndE {out : Out (List Z)} {f : List Z → ZH → Out Z} {Q : VK} {K : List V → Hp → Prop} (p : Post g F W ρ zσ zh σ H (out.bnd f) Q)
   (h : ∀ ρ1 z zh1 v H1, Ext F ρ zh H ρ1 zh1 H1 → RelH g F ρ1 zh1 H1 → RZs g (UO F ρ1 zh1) H1 ρ1 z v → Post g F W ρ1 zσ zh1 σ H1 (f z zh1) Q → K v H1) : PostA g F W ρ zσ zh σ H out K := by
 cases out with
 | ok z zh1 => exact fun ρ' v H' e1 e2 e3 => h ρ' z zh1 v H' e1 e2 e3 (Post.shift e1 p)
 | exc x h => exact p
 | bad => exact p
theorem PostA.done (r : RelH g F ρ zh H) {zs : List Z} {vs : List V} {Q : List V → Hp → Prop} (p : PostA g F W ρ zσ zh σ H (.ok zs zh) Q) (rz : RZs g (UO F ρ zh) H ρ zs vs) : Q vs H :=
 p ρ vs H Ext.refl r rz
end
def lowA (g : G) (F : Fr) (W : WX) (d : DA) : TA := fun σ H Q => ∃ ρ zσ zh, RelH g F ρ zh H ∧ RelS g (UO F ρ zh) H ρ zσ σ ∧ PostA g F W ρ zσ zh σ H (d zσ zh) Q
def ZA (g : G) (F : Fr) (X : Cx) (W : WX) (es : List Expr) (d : DA) : Prop := PA X es (lowA g F W d)
theorem PA.imp {X : Cx} {es : List Expr} {t t' : TA} (h : PA X es t) (k : ∀ σ H Q, t' σ H Q → t σ H Q) : PA X es t' := ⟨fun pos pins s σ H Q I q => h.run pos pins s σ H Q I (k σ H Q q)⟩
def dNil : DA := fun _ h => .ok [] h
def dCons (d : DE) (r : DA) : DA := fun s h => (d s h).bnd fun z h1 => (r s h1).bnd fun zs h2 => .ok (z :: zs) h2
theorem za_nil : ZA g F X W [] dNil := PA.imp pa_nil fun σ H Q ⟨ρ, zσ, zh, RH, RS, p⟩ => PostA.done RH p rfl
theorem za_cons {dr : DA} (ha : ZE g F X W e da) (hr : ZA g F X W es dr) (hs : starEach (e :: es) X.env = (false, eval e X.env) :: starEach es X.env := by rfl) : ZA g F X W (e :: es) (dCons da dr) := by
 refine PA.imp (pa_cons ha hr hs) fun σ H Q ⟨ρ, zσ, zh, RH, RS, p⟩ => ?_
 refine ⟨ρ, zσ, zh, RH, RS, Post.bndA p fun ρ1 z zh1 v H1 e1 R1 rz p1 => ?_⟩
 refine ⟨ρ1, zσ, zh1, R1, RS.mono e1, PostA.bnd p1 fun ρ2 zs zh2 vs H2 e2 R2 rzs p2 => ?_⟩
 exact PostA.done R2 p2 ⟨v, vs, rfl, RZ.mono e2.stb e2.pre rz, rzs⟩
def asDs : List Z → Option (List D)
 | [] => some []
 | .d x :: zs => (asDs zs).bind fun xs => some (x :: xs)
 | .r _ :: _ => none
 | .e _ :: _ => none
theorem asDs_ok {U : Addr → Prop} {H : Hp} {ρ : List Addr} : ∀ {zs : List Z} {xs : List D} {vs : List V}, asDs zs = some xs → RZs g U H ρ zs vs → RDs g U H xs vs
 | [], xs, vs, h, r => by cases h; exact rds_nil.mpr r
 | .d x :: zs, xs, vs, h, ⟨v, vs', e, r, q⟩ => by
   unfold asDs at h
   cases k : asDs zs with
   | none => rw [k] at h; cases h
   | some ys =>
     rw [k] at h; cases h
     exact rds_cons.mpr ⟨v, vs', e, r, asDs_ok k q⟩
 | .r _ :: _, xs, vs, h, _ => by cases h
 | .e _ :: _, xs, vs, h, _ => by cases h
def dTup (d : DA) : DE := fun s h => (d s h).bnd fun zs h1 => match asDs zs with
 | some xs => if xs.length ≤ 1000000 then .ok (.d (.tup xs)) h1 else .bad
 | none => .bad
def dLst (d : DA) : DE := fun s h => (d s h).bnd fun zs h1 => match asDs zs with
 | some xs => if xs.length ≤ 1000000 then .ok (.d (.lst xs)) h1 else .bad
 | none => .bad
def dLstO (d : DA) : DE := fun s h => (d s h).bnd fun zs h1 => match asDs zs with
 | some xs => if xs.length ≤ 1000000 then .ok (.r h1.length) (h1 ++ [.dl xs]) else .bad
 | none => .bad
def dLstZ (d : DA) : DE := fun s h => (d s h).bnd fun zs h1 => if zs.length ≤ 1000000 then .ok (.r h1.length) (h1 ++ [.zl zs]) else .bad
theorem milSz {n : Nat} (h : n ≤ 1000000) : n ≤ sizeLine := by rw [sizeLine_eq]; omega
theorem new_frozen {ρ : List Addr} {zσ : ZS} {zh : ZH} {σ : L2.St} {H : Hp} (R : RelH g F ρ zh H) {p : Addr} {o : HO} {x : D} {Q : VK} (n : H p = none) (pp : Post g F W ρ zσ zh σ H (.ok (.d x) zh) Q)
   (k : ∀ (U : Addr → Prop), ¬ U p → Stb (UO F ρ zh) H U (upd H p o) → RD g U (upd H p o) x (.ref p)) : Q (.ref p) (upd H p o) := by
 obtain ⟨R', e, nu⟩ := R.newF (o := o) n
 exact pp ρ (.ref p) _ e R' (k _ nu e.stb)
theorem new_owned {ρ : List Addr} {zσ : ZS} {zh : ZH} {σ : L2.St} {H : Hp} (R : RelH g F ρ zh H) {p : Addr} {o : HO} {zo : ZO} {Q : VK} (n : H p = none) (pp : Post g F W ρ zσ zh σ H (.ok (.r zh.length) (zh ++ [zo])) Q)
   (k : ∀ (U : Addr → Prop), Stb (UO F ρ zh) H U (upd H p o) → RO g U (upd H p o) (ρ ++ [p]) p zo) : Q (.ref p) (upd H p o) := by
 have s : Stb (UO F ρ zh) H (UO F (ρ ++ [p]) (zh ++ [zo])) (upd H p o) := fun a u e nua =>
   ⟨by rw [upd_ne (ne_of_none e n)]; exact e, fun z => (uo_new R.len z).elim nua (ne_of_none e n)⟩
 obtain ⟨R', e⟩ := R.newO (o := o) n (k _ s)
 exact pp (ρ ++ [p]) (.ref p) _ e R' ⟨p, by rw [← R.len]; simp, rfl⟩
theorem z_tup {x1} {d : DA} (h : ZA g F X W es d) : ZE g F X W (.Tuple es x1 pos) (dTup d) := by
 refine PE.imp (pe_tup h) fun σ H Q ⟨ρ, zσ, zh, RH, RS, p⟩ => ?_
 refine ⟨ρ, zσ, zh, RH, RS, PostA.bndE p fun ρ1 zs zh1 vs H1 e1 R1 rz p1 => ?_⟩
 cases k : asDs zs with
 | none => simp only [k] at p1; exact p1.elim
 | some xs =>
   simp only [k] at p1
   have r := asDs_ok k rz
   by_cases hl : xs.length ≤ 1000000
   · rw [if_pos hl] at p1
     exact ⟨by rw [r.length]; exact milSz hl, fun q hq => new_frozen R1 hq p1 fun U nu s => rd_tup.mpr ⟨q, vs, rfl, nu, .inl upd_same, RDs.mono s xs vs r⟩⟩
   · rw [if_neg hl] at p1; exact p1.elim
theorem z_lst {d : DA} (h : ZA g F X W es d) : ZE g F X W (.List es pos) (dLst d) := by
 refine PE.imp (pe_lst h) fun σ H Q ⟨ρ, zσ, zh, RH, RS, p⟩ => ?_
 refine ⟨ρ, zσ, zh, RH, RS, PostA.bndE p fun ρ1 zs zh1 vs H1 e1 R1 rz p1 => ?_⟩
 cases k : asDs zs with
 | none => simp only [k] at p1; exact p1.elim
 | some xs =>
   simp only [k] at p1
   have r := asDs_ok k rz
   by_cases hl : xs.length ≤ 1000000
   · rw [if_pos hl] at p1
     exact ⟨by rw [r.length]; exact milSz hl, fun q hq => new_frozen R1 hq p1 fun U nu s => rd_lst.mpr ⟨q, vs, rfl, nu, upd_same, RDs.mono s xs vs r⟩⟩
   · rw [if_neg hl] at p1; exact p1.elim
theorem z_lstO {d : DA} (h : ZA g F X W es d) : ZE g F X W (.List es pos) (dLstO d) := by
 refine PE.imp (pe_lst h) fun σ H Q ⟨ρ, zσ, zh, RH, RS, p⟩ => ?_
 refine ⟨ρ, zσ, zh, RH, RS, PostA.bndE p fun ρ1 zs zh1 vs H1 e1 R1 rz p1 => ?_⟩
 cases k : asDs zs with
 | none => simp only [k] at p1; exact p1.elim
 | some xs =>
   simp only [k] at p1
   have r := asDs_ok k rz
   by_cases hl : xs.length ≤ 1000000
   · rw [if_pos hl] at p1
     exact ⟨by rw [r.length]; exact milSz hl, fun q hq => new_owned R1 hq p1 fun U s => ⟨vs, upd_same, RDs.mono s xs vs r⟩⟩
   · rw [if_neg hl] at p1; exact p1.elim
theorem z_lstZ {d : DA} (h : ZA g F X W es d) : ZE g F X W (.List es pos) (dLstZ d) := by
 refine PE.imp (pe_lst h) fun σ H Q ⟨ρ, zσ, zh, RH, RS, p⟩ => ?_
 refine ⟨ρ, zσ, zh, RH, RS, PostA.bndE p fun ρ1 zs zh1 vs H1 e1 R1 rz p1 => ?_⟩
 by_cases hl : zs.length ≤ 1000000
 · rw [if_pos hl] at p1
   exact ⟨by rw [rz.length]; exact milSz hl, fun q hq => new_owned R1 hq p1 fun U s => ⟨vs, upd_same, RZs.mono s (List.prefix_append _ _) rz⟩⟩
 · rw [if_neg hl] at p1; exact p1.elim
abbrev OpN := List Z → ZH → Out Z
def dCall (op : OpN) (d : DA) : DE := fun s h => (d s h).bnd fun zs h1 => op zs h1
def LowC (g : G) (r : List V → Hp → VK → Prop) (op : OpN) : Prop := ∀ {F : Fr} {W : WX} {ρ : List Addr} {zσ : ZS} {zh : ZH} {σ : L2.St} {H : Hp} {zs : List Z} {vs : List V} {Q : VK},
 RelH g F ρ zh H → RZs g (UO F ρ zh) H ρ zs vs → Post g F W ρ zσ zh σ H (op zs zh) Q → r vs H Q
variable {x : Str} {p : Pos} {id T : String} {r : List V → Hp → VK → Prop} {zop : OpN}
theorem z_callB (hc : CallR X (.builtin id) r) (hl : LowC g r zop) (hg : Gl X x) (hm : X.mg x = none) (hv : bootBuiltins x = some (.builtin id)) {d : DA} (ha : ZA g F X W (e :: es) d) (hn : x ≠ "__name__" := by decide) (hdb : (x == ("__debug__" : Str)) = false := by decide)
   (he : starEach (e :: es) X.env = (false, eval e X.env) :: starEach es X.env := by rfl) (hpl : (backTo pos (starEach es X.env)).any (·.1) = false := by rfl) : ZE g F X W (.Call (.Name x p) (e :: es) [] pos) (dCall zop d) := by
 refine PE.imp (pe_callB hc hg hm hv ha hn hdb he hpl) fun σ H Q ⟨ρ, zσ, zh, RH, RS, p⟩ => ?_
 exact ⟨ρ, zσ, zh, RH, RS, PostA.bndE p fun ρ1 zs zh1 vs H1 e1 R1 rz p1 => hl R1 rz p1⟩
theorem z_callTy (hc : CallR X (.type T) r) (hl : LowC g r zop) (hg : Gl X x) (hm : X.mg x = none) (hv : bootBuiltins x = some (.type T)) {d : DA} (ha : ZA g F X W (e :: es) d) (hn : x ≠ "__name__" := by decide) (hdb : (x == ("__debug__" : Str)) = false := by decide)
   (he : starEach (e :: es) X.env = (false, eval e X.env) :: starEach es X.env := by rfl) (hpl : (backTo pos (starEach es X.env)).any (·.1) = false := by rfl) : ZE g F X W (.Call (.Name x p) (e :: es) [] pos) (dCall zop d) := by
 refine PE.imp (pe_callTy hc hg hm hv ha hn hdb he hpl) fun σ H Q ⟨ρ, zσ, zh, RH, RS, p⟩ => ?_
 exact ⟨ρ, zσ, zh, RH, RS, PostA.bndE p fun ρ1 zs zh1 vs H1 e1 R1 rz p1 => hl R1 rz p1⟩
theorem rzs_one {U : Addr → Prop} {H : Hp} {ρ : List Addr} {z : Z} {vs : List V} (h : RZs g U H ρ [z] vs) : ∃ v, vs = [v] ∧ RZ g U H ρ z v := by
 obtain ⟨v, vs', e, r, q⟩ := h
 exact ⟨v, by rw [e, show vs' = [] from q], r⟩
def opInt : OpN := fun zs h => match zs with
 | [.d (.int i)] => .ok (.d (.int i)) h
 | [.d (.bl b)] => .ok (.d (.int (if b then 1 else 0))) h
 | _ => .bad
theorem low_int : LowC g (fun xs H Q => (∃ i, xs = [.int i] ∧ Q (.int i) H) ∨ ∃ k, xs = [.bl k] ∧ Q (.int (if k then 1 else 0)) H) opInt := by
 intro F W ρ zσ zh σ H zs vs Q RH rz p
 unfold opInt at p
 split at p
 · obtain ⟨v, rfl, q⟩ := rzs_one rz
   rw [rz_int.mp q]
   exact .inl ⟨_, rfl, Post.done RH p (rz_int.mpr rfl)⟩
 · obtain ⟨v, rfl, q⟩ := rzs_one rz
   rw [rz_bl.mp q]
   exact .inr ⟨_, rfl, Post.done RH p (rz_int.mpr rfl)⟩
 · exact p.elim
def opAbs : OpN := fun zs h => match zs with
 | [.d (.int i)] => .ok (.d (.int (if i < 0 then -i else i))) h
 | _ => .bad
theorem low_abs : LowC g (fun xs H Q => ∃ i, xs = [.int i] ∧ Q (.int (if i < 0 then -i else i)) H) opAbs := by
 intro F W ρ zσ zh σ H zs vs Q RH rz p
 unfold opAbs at p
 split at p
 · obtain ⟨v, rfl, q⟩ := rzs_one rz
   rw [rz_int.mp q]
   exact ⟨_, rfl, Post.done RH p (rz_int.mpr rfl)⟩
 · exact p.elim
def opLen : OpN := fun zs h => match zs with
 | [.d (.str s)] => .ok (.d (.int s.length)) h
 | [z] => match asSeq z h with
   | some xs => .ok (.d (.int xs.length)) h
   | none => .bad
 | _ => .bad
theorem low_len : LowC g (fun xs H Q => ∃ x n, xs = [x] ∧ LenV g.K x H n ∧ Q (.int n) H) opLen := by
 intro F W ρ zσ zh σ H zs vs Q RH rz p
 unfold opLen at p
 split at p
 · obtain ⟨v, rfl, q⟩ := rzs_one rz
   obtain ⟨e, ok⟩ := rz_str.mp q
   rw [e]
   refine ⟨_, _, rfl, ⟨?_, rfl⟩, Post.done RH p (rz_int.mpr (by simp [mkS, Str.length]))⟩
   have := ok.2
   simpa [mkS, Str.length] using this
 · rename_i z _
   obtain ⟨v, rfl, q⟩ := rzs_one rz
   cases k : asSeq z zh with
   | none => simp only [k] at p; exact p.elim
   | some xs =>
     simp only [k] at p
     obtain ⟨a, us, rfl, hs, hr⟩ := asSeq_ok RH q k
     refine ⟨_, us.length, rfl, ?_, Post.done RH p (rz_int.mpr (by rw [hr.length]))⟩
     rcases hs with hs | hs
     · exact .inl ⟨us, hs, rfl⟩
     · exact .inr ⟨us, hs, rfl⟩
 · exact p.elim
def opList (own : Bool) : OpN := fun zs h => match zs with
 | [z] => match asSeq z h with
   | some xs => if own then .ok (.r h.length) (h ++ [.dl xs]) else .ok (.d (.lst xs)) h
   | none => .bad
 | _ => .bad
theorem low_list {own : Bool} : LowC g (fun xs H Q => ∃ p ys, xs = [.ref p] ∧ (SqL g.K H p ys ∨ SqT g.K H p ys) ∧ ∀ l, H l = none → Q (.ref l) (upd H l (.lst ys))) (opList own) := by
 intro F W ρ zσ zh σ H zs vs Q RH rz p
 unfold opList at p
 split at p
 · rename_i z
   obtain ⟨v, rfl, q⟩ := rzs_one rz
   cases k : asSeq z zh with
   | none => simp only [k] at p; exact p.elim
   | some xs =>
     simp only [k] at p
     obtain ⟨a, us, rfl, hs, hr⟩ := asSeq_ok RH q k
     refine ⟨a, us, rfl, hs, fun l hl => ?_⟩
     cases own with
     | true =>
       rw [if_pos rfl] at p
       exact new_owned RH hl p fun U s => ⟨us, upd_same, RDs.mono s xs us hr⟩
     | false =>
       rw [if_neg Bool.false_ne_true] at p
       exact new_frozen RH hl p fun U nu s => rd_lst.mpr ⟨l, us, rfl, nu, upd_same, RDs.mono s xs us hr⟩
 · exact p.elim
def opTuple : OpN := fun zs h => match zs with
 | [.d (.tup xs)] => .ok (.d (.tup xs)) h
 | [.d (.scr _)] => .bad
 | [z] => match asSeq z h with
   | some xs => .ok (.d (.tup xs)) h
   | none => .bad
 | _ => .bad
theorem low_tuple : LowC g (fun xs H Q => ∃ p ys, xs = [.ref p] ∧ ((SqL g.K H p ys ∧ ∀ l, H l = none → Q (.ref l) (upd H l (.tup ys))) ∨ (SqT g.K H p ys ∧ Q (.ref p) H))) opTuple := by
 intro F W ρ zσ zh σ H zs vs Q RH rz p
 unfold opTuple at p
 split at p
 · obtain ⟨v, rfl, q⟩ := rzs_one rz
   obtain ⟨a, us, rfl, _, hs, hr⟩ := rd_tup.mp q
   exact ⟨a, us, rfl, .inr ⟨.inl hs, Post.done RH p q⟩⟩
 · exact p.elim
 · rename_i z n1 n2
   obtain ⟨v, rfl, q⟩ := rzs_one rz
   cases k : asSeq z zh with
   | none => simp only [k] at p; exact p.elim
   | some xs =>
     simp only [k] at p
     have k' : asList z zh = some xs := by
       unfold asSeq at k
       unfold asList
       split at k
       · exact k
       · exact absurd rfl (n1 _)
       · exact absurd rfl (n2 _)
       · exact k
       · cases k
     obtain ⟨a, us, rfl, hs, hr⟩ := asList_ok RH q k'
     exact ⟨a, us, rfl, .inl ⟨SqL.of hs, fun l hl => new_frozen RH hl p fun U nu s => rd_tup.mpr ⟨l, us, rfl, nu, .inl upd_same, RDs.mono s xs us hr⟩⟩⟩
 · exact p.elim
end
end Zl
end
section
namespace Zl
open PySem PySem.Spec PyProof.Rows L2
section
variable {g : G} {F : Fr} {X : Cx} {W : WX} {a b c e : Expr} {es : List Expr} {da db dc : DE} {pos : Pos}
def atD (xs : List D) (i : Int) : Option D := (ixN xs.length i).bind fun j => xs[j]?
theorem atD_ok {U : Addr → Prop} {H : Hp} {xs : List D} {vs : List V} {i : Int} {x : D} (r : RDs g U H xs vs) (h : atD xs i = some x) : ∃ v, atI vs i = some v ∧ RD g U H x v := by
 unfold atD at h
 unfold atI
 rw [r.length]
 cases k : ixN xs.length i with
 | none => rw [k] at h; cases h
 | some j =>
   rw [k] at h
   obtain ⟨v, h1, h2⟩ := RDs.get r (i := j) (d := x) h
   exact ⟨v, h1, h2⟩
def atZ (xs : List Z) (i : Int) : Option Z := (ixN xs.length i).bind fun j => xs[j]?
theorem atZ_ok {U : Addr → Prop} {H : Hp} {ρ : List Addr} {xs : List Z} {vs : List V} {i : Int} {x : Z} (r : RZs g U H ρ xs vs) (h : atZ xs i = some x) : ∃ v, atI vs i = some v ∧ RZ g U H ρ x v := by
 unfold atZ at h
 unfold atI
 rw [r.length]
 cases k : ixN xs.length i with
 | none => rw [k] at h; cases h
 | some j =>
   rw [k] at h
   obtain ⟨v, h1, h2⟩ := RZs.get r (i := j) (d := x) h
   exact ⟨v, h1, h2⟩
def opIx : Op2 := fun x y h => match y with
 | .d (.int i) => match x with
   | .d (.str s) => match (ixN s.length i).bind fun j => s[j]? with
     | some c => .ok (.d (.str [c])) h
     | none => .bad
   | .r k => match h[k]? with
     | some (.dl xs) => match atD xs i with
       | some x => .ok (.d x) h
       | none => .bad
     | some (.zl xs) => match atZ xs i with
       | some x => .ok x h
       | none => .bad
     | _ => .bad
   | z => match asSeq z h with
     | some xs => match atD xs i with
       | some x => .ok (.d x) h
       | none => .bad
     | none => .bad
 | _ => .bad
theorem low_ix : LowR2 g (rIx g.K) opIx := by
 intro F W ρ zσ zh σ H zx zy x y Q RH rx ry p
 unfold opIx at p
 split at p
 · rename_i i
   have ey := rz_int.mp ry
   subst ey
   split at p
   · rename_i s
     obtain ⟨ex, ok⟩ := rz_str.mp rx
     subst ex
     cases k : (ixN s.length i).bind fun j => s[j]? with
     | none => simp only [k] at p; exact p.elim
     | some c =>
       simp only [k] at p
       refine .inr (.inr ⟨_, _, c, rfl, rfl, by simpa [mkS, Str.length] using ok.2, by simpa [atI, mkS] using k, Post.done RH p (rz_str.mpr ⟨rfl, ?_, ?_⟩)⟩)
       · intro c' hc'
         have e : c' = c := by simpa using hc'
         subst e
         cases k2 : ixN s.length i with
         | none => rw [k2] at k; cases k
         | some j =>
           rw [k2] at k
           exact ok.1 _ (List.mem_of_getElem? k)
       · show 1 ≤ sizeLine
         decide
   · rename_i kk
     obtain ⟨ad, h1, ev⟩ := rx
     subst ev
     cases hz : zh[kk]? with
     | none => rw [hz] at p; exact p.elim
     | some o =>
       rw [hz] at p
       cases o with
       | dl xs =>
         simp only at p
         obtain ⟨vs, q, r⟩ := RH.own kk ad _ h1 hz
         cases k : atD xs i with
         | none => simp only [k] at p; exact p.elim
         | some d =>
           simp only [k] at p
           obtain ⟨v, k1, k2⟩ := atD_ok r k
           exact .inl ⟨_, vs, i, v, rfl, rfl, SqL.of q, k1, Post.done RH p k2⟩
       | zl xs =>
         simp only at p
         obtain ⟨vs, q, r⟩ := RH.own kk ad _ h1 hz
         cases k : atZ xs i with
         | none => simp only [k] at p; exact p.elim
         | some d =>
           simp only [k] at p
           obtain ⟨v, k1, k2⟩ := atZ_ok r k
           exact .inl ⟨_, vs, i, v, rfl, rfl, SqL.of q, k1, Post.done RH p k2⟩
       | _ => exact p.elim
   · cases hz : asSeq zx zh with
     | none => rw [hz] at p; exact p.elim
     | some xs =>
       rw [hz] at p
       simp only at p
       cases k : atD xs i with
       | none => simp only [k] at p; exact p.elim
       | some d =>
         simp only [k] at p
         obtain ⟨ad, vs, ev, hs, r⟩ := asSeq_ok RH rx hz
         subst ev
         obtain ⟨v, k1, k2⟩ := atD_ok r k
         rcases hs with hs | hs
         · exact .inl ⟨_, vs, i, v, rfl, rfl, hs, k1, Post.done RH p k2⟩
         · exact .inr (.inl ⟨_, vs, i, v, rfl, rfl, hs, k1, Post.done RH p k2⟩)
 · exact p.elim
theorem z_ix (hK : X.K = g.K) (ha : ZE g F X W a da) (hb : ZE g F X W b db) (hs : PlainIx b := by exact fun _ _ => rfl) : ZE g F X W (.Subscript a b pos) (dBin opIx da db) :=
 PE.imp (pe_ix (r := rIx g.K) (by rw [← hK]; exact ix_seq) ha hb hs) fun _ _ _ h => low_bin low_ix h
def opAdd : Op2 := fun x y h => match x, y with
 | .d (.int i), .d (.int j) => .ok (.d (.int (i + j))) h
 | .d (.str s), .d (.str t) => if s.length + t.length ≤ 1000000 then .ok (.d (.str (s ++ t))) h else .bad
 | .d (.tup xs), .d (.tup ys) => if xs.length + ys.length ≤ 1000000 then .ok (.d (.tup (xs ++ ys))) h else .bad
 | x, y => match asList x h, asList y h with
   | some xs, some ys => if xs.length + ys.length ≤ 1000000 then .ok (.d (.lst (xs ++ ys))) h else .bad
   | _, _ => .bad
theorem SOk.append {s t : List Nat} (a : SOk s) (b : SOk t) (h : s.length + t.length ≤ 1000000) : SOk (s ++ t) := by
 refine ⟨fun c hc => ?_, by rw [List.length_append]; exact milSz h⟩
 rcases List.mem_append.mp hc with hc | hc
 · exact a.1 c hc
 · exact b.1 c hc
abbrev rAddAll (K : PySem.W.Frag) : R2 := fun x y H Q => (fun x y H Q => (fun x y H Q => (fun x y H Q => ∃ i j, x = .int i ∧ y = .int j ∧ Q (.int (i + j)) H) x y H Q ∨ (fun x y H Q => ∃ i j, x = .str i ∧ y = .str j ∧ i.length + j.length ≤ sizeLine ∧ Q (.str (i ++ j)) H) x y H Q) x y H Q ∨ rCatA K x y H Q) x y H Q ∨ rCat x y H Q
theorem op_addAll : OpR X (binaryOp .Add) (rAddAll X.K) := OpR.or (OpR.or (OpR.or op_add op_add_str) op_catA) op_cat
theorem low_add : LowR2 g (rAddAll g.K) opAdd := by
 intro F W ρ zσ zh σ H zx zy x y Q RH rx ry p
 unfold opAdd at p
 split at p
 · rw [rz_int.mp rx, rz_int.mp ry]
   exact .inl (.inl (.inl ⟨_, _, rfl, rfl, Post.done RH p (rz_int.mpr rfl)⟩))
 · rename_i s t
   split at p
   · rename_i hl
     obtain ⟨ex, okx⟩ := rz_str.mp rx
     obtain ⟨ey, oky⟩ := rz_str.mp ry
     rw [ex, ey]
     refine .inl (.inl (.inr ⟨_, _, rfl, rfl, ?_, Post.done RH p (rz_str.mpr ⟨?_, okx.append oky hl⟩)⟩))
     · simpa [mkS, Str.length] using milSz hl
     · show V.str (⟨(mkS s).cps ++ (mkS t).cps⟩ : Str) = _
       simp [mkS]
   · exact p.elim
 · rename_i xs ys
   split at p
   · rename_i hl
     obtain ⟨u, vs, e1, nu, q1, r1⟩ := rd_tup.mp rx
     obtain ⟨w, us, e2, nw, q2, r2⟩ := rd_tup.mp ry
     refine .inl (.inr ⟨u, w, vs, us, e1, e2, .inl q1, .inl q2, by rw [r1.length, r2.length]; exact milSz hl, fun hx => ?_, fun hx hy => ?_, fun hx hy pp np => ?_⟩)
     · have : xs = [] := by
         have := r1.length
         rw [hx] at this
         exact List.length_eq_zero_iff.mp this.symm
       subst this
       rw [← e2]
       exact Post.done RH p ry
     · have : ys = [] := by
         have := r2.length
         rw [hy] at this
         exact List.length_eq_zero_iff.mp this.symm
       subst this
       rw [List.append_nil] at p
       rw [← e1]
       exact Post.done RH p rx
     · exact new_frozen RH np p fun U nu' s => rd_tup.mpr ⟨pp, _, rfl, nu', .inl upd_same, (RDs.mono s _ _ r1).append (RDs.mono s _ _ r2)⟩
   · exact p.elim
 · cases hx : asList zx zh with
   | none => simp only [hx] at p; exact p.elim
   | some xs =>
     cases hy : asList zy zh with
     | none => simp only [hx, hy] at p; exact p.elim
     | some ys =>
       simp only [hx, hy] at p
       split at p
       · rename_i hl
         obtain ⟨u, vs, e1, q1, r1⟩ := asList_ok RH rx hx
         obtain ⟨w, us, e2, q2, r2⟩ := asList_ok RH ry hy
         refine .inr ⟨u, w, vs, us, e1, e2, q1, q2, by rw [r1.length, r2.length]; exact milSz hl, fun pp np => ?_⟩
         exact new_frozen RH np p fun U nu' s => rd_lst.mpr ⟨pp, _, rfl, nu', upd_same, (RDs.mono s _ _ r1).append (RDs.mono s _ _ r2)⟩
       · exact p.elim
theorem z_add (hK : X.K = g.K) (ha : ZE g F X W a da) (hb : ZE g F X W b db) : ZE g F X W (.BinOp a .Add b pos) (dBin opAdd da db) :=
 z_op (r := rAddAll g.K) (by rw [← hK]; exact op_addAll) low_add ha hb
end
end Zl
end
section
namespace Zl
open PySem PySem.Spec PyProof.Rows L2
section
variable {g : G} {F : Fr} {X : Cx} {W : WX} {a b c e o : Expr} {es : List Expr} {da db dc : DE} {pos apos cpos : Pos} {T id : String} {name : Str}
abbrev OpM := Z → List Z → ZH → Out Z
def isLst (z : Z) (h : ZH) : Bool := match z with
 | .d (.lst _) => true
 | .d (.scr _) => true
 | .r i => match h[i]? with
   | some (.dl _) => true
   | some (.zl _) => true
   | _ => false
 | _ => false
def dMeth (ty : Z → ZH → Bool) (op : OpM) (d : DE) (da : DA) : DE := fun s h => (d s h).bnd fun z h1 => if ty z h1 = true then (da s h1).bnd fun zs h2 => op z zs h2 else .bad
def LowM (g : G) (r : V → List V → Hp → VK → Prop) (op : OpM) : Prop := ∀ {F : Fr} {W : WX} {ρ : List Addr} {zσ : ZS} {zh : ZH} {σ : L2.St} {H : Hp} {zx : Z} {zs : List Z} {x : V} {vs : List V} {Q : VK},
 RelH g F ρ zh H → RZ g (UO F ρ zh) H ρ zx x → RZs g (UO F ρ zh) H ρ zs vs → Post g F W ρ zσ zh σ H (op zx zs zh) Q → r x vs H Q
def TyOk (g : G) (T : String) (ty : Z → ZH → Bool) : Prop := ∀ {F : Fr} {ρ : List Addr} {zh : ZH} {H : Hp} {z : Z} {v : V}, RelH g F ρ zh H → RZ g (UO F ρ zh) H ρ z v → ty z zh = true → tyV g.K T v H
theorem ty_list : TyOk g "list" isLst := by
 intro F ρ zh H z v RH rz h
 unfold isLst at h
 split at h
 · obtain ⟨a, vs, rfl, _, q, _⟩ := rd_lst.mp rz
   exact .inl ⟨rfl, vs, SqL.of q⟩
 · obtain ⟨a, vs, rfl, q, _⟩ := rd_scr.mp rz
   exact .inl ⟨rfl, vs, scL q⟩
 · rename_i i
   obtain ⟨a, h1, rfl⟩ := rz
   cases hz : zh[i]? with
   | none => rw [hz] at h; cases h
   | some o =>
     rw [hz] at h
     cases o with
     | dl xs =>
       obtain ⟨vs, q, _⟩ := RH.own i a _ h1 hz
       exact .inl ⟨rfl, vs, SqL.of q⟩
     | zl xs =>
       obtain ⟨vs, q, _⟩ := RH.own i a _ h1 hz
       exact .inl ⟨rfl, vs, SqL.of q⟩
     | _ => cases h
 · cases h
theorem z_meth0 (pa : PlainAttrs T) (slot : Slot T name id) (hty : typeOf (.builtin id) = pure (.type "method_descriptor")) {r : V → List V → Hp → VK → Prop} {op : OpM} {ty : Z → ZH → Bool} (hK : X.K = g.K) (hm : MtR X id r) (hl : LowM g r op) (hT : TyOk g T ty) (ho : ZE g F X W o da)
   (hbase : attributeBase o name X.env (eval o X.env) = eval o X.env := by rfl) (hline : (apos.endLine == cpos.line) = true := by rfl) : ZE g F X W (.Call (.Attribute o name apos) [] [] cpos) (dMeth ty op da dNil) := by
 refine PE.imp (pe_bm0 pa slot hty hm ho hbase hline) fun σ H Q ⟨ρ, zσ, zh, RH, RS, p⟩ => ?_
 refine ⟨ρ, zσ, zh, RH, RS, Post.bnd p fun ρ1 z zh1 v H1 e1 R1 rz p1 => ?_⟩
 split at p1
 · rename_i ht
   exact ⟨by rw [hK]; exact hT R1 rz ht, hl (zs := []) R1 rz rfl p1⟩
 · exact p1.elim
theorem z_meth (pa : PlainAttrs T) (slot : Slot T name id) (hty : typeOf (.builtin id) = pure (.type "method_descriptor")) {r : V → List V → Hp → VK → Prop} {op : OpM} {ty : Z → ZH → Bool} (hK : X.K = g.K) (hm : MtR X id r) (hl : LowM g r op) (hT : TyOk g T ty) (ho : ZE g F X W o da) {d : DA} (ha : ZA g F X W (e :: es) d)
   (hbase : attributeBase o name X.env (eval o X.env) = eval o X.env := by rfl)
   (hfew : ((backTo cpos (starEach (e :: es) X.env)).all (fun x => !x.1) && (backToKw cpos (keywordEach [] X.env)).all (fun x => x.1.isSome)
     && decide ((e :: es).length + ([] : List Keyword).length + (if ([] : List Keyword).isEmpty then 0 else 1) < 30)) = true := by rfl)
   (hline : (apos.endLine == cpos.line) = true := by rfl) (hs : starEach (e :: es) X.env = (false, eval e X.env) :: starEach es X.env := by rfl) (hplain : (backTo cpos (starEach es X.env)).any (·.1) = false := by rfl) :
   ZE g F X W (.Call (.Attribute o name apos) (e :: es) [] cpos) (dMeth ty op da d) := by
 refine PE.imp (pe_bm pa slot hty hm ho ha hbase hfew hline hs hplain) fun σ H Q ⟨ρ, zσ, zh, RH, RS, p⟩ => ?_
 refine ⟨ρ, zσ, zh, RH, RS, Post.bnd p fun ρ1 z zh1 v H1 e1 R1 rz p1 => ?_⟩
 split at p1
 · rename_i ht
   refine ⟨by rw [hK]; exact hT R1 rz ht, ρ1, zσ, zh1, R1, RS.mono e1, PostA.bndE p1 fun ρ2 zs zh2 vs H2 e2 R2 rzs p2 => ?_⟩
   exact hl R2 (RZ.mono e2.stb e2.pre rz) rzs p2
 · exact p1.elim
theorem set_done {F : Fr} {W : WX} {ρ : List Addr} {zσ : ZS} {zh : ZH} {σ : L2.St} {H : Hp} (RH : RelH g F ρ zh H) {i : Nat} {a : Addr} {o : HO} {zo zo' : ZO} {z : Z} {v : V} {Q : VK} (h1 : ρ[i]? = some a) (h2 : zh[i]? = some zo) (hl : zo.live = true)
   (p : Post g F W ρ zσ zh σ H (.ok z (zh.set i zo')) Q) (h : ∀ U, Stb (UO F ρ zh) H U (upd H a o) → RO g U (upd H a o) ρ a zo') (hv : ∀ U, Stb (UO F ρ zh) H U (upd H a o) → RZ g U (upd H a o) ρ z v) : Q v (upd H a o) := by
 have s : Stb (UO F ρ zh) H (UO F ρ (zh.set i zo')) (upd H a o) := fun b u e nub =>
   ⟨by rw [upd_ne (fun z : b = a => nub (by rw [z]; exact .inr ⟨i, zo, h1, h2, hl⟩))]; exact e, fun z => nub (uo_set z ⟨zo, h2, hl⟩)⟩
 obtain ⟨R', e⟩ := RH.set (o := o) h1 h2 hl (h _ s)
 exact p ρ v _ e R' (hv _ s)
def opAppend : OpM := fun x zs h => match x, zs with
 | .r i, [z] => match h[i]?, z with
   | some (.dl xs), .d y => if xs.length < 1000000 then .ok (.d .non) (h.set i (.dl (xs ++ [y]))) else .bad
   | some (.zl xs), z => if xs.length < 1000000 then .ok (.d .non) (h.set i (.zl (xs ++ [z]))) else .bad
   | some (.dl []), .r j => .ok (.d .non) (h.set i (.zl [.r j]))
   | _, _ => .bad
 | _, _ => .bad
theorem milLt {n : Nat} (h : n < 1000000) : n < sizeLine := by rw [sizeLine_eq]; omega
theorem low_append : LowM g rAppend opAppend := by
 intro F W ρ zσ zh σ H zx zs x vs Q RH rx rs p
 unfold opAppend at p
 split at p
 · rename_i i z
   obtain ⟨a, h1, rfl⟩ := rx
   obtain ⟨v, rfl, rz⟩ := rzs_one rs
   split at p
   · rename_i xs y hz
     split at p
     · rename_i hl
       obtain ⟨us, q, r⟩ := RH.own i a _ h1 hz
       refine ⟨a, us, v, rfl, rfl, q, by rw [r.length]; exact milLt hl, ?_⟩
       exact set_done RH h1 hz rfl p (fun U s => ⟨_, upd_same, (RDs.mono s _ _ r).append (rds_cons.mpr ⟨v, [], rfl, RD.mono s _ _ rz, rds_nil.mpr rfl⟩)⟩) fun U s => rz_non.mpr rfl
     · exact p.elim
   · rename_i xs z' hz
     split at p
     · rename_i hl
       obtain ⟨us, q, r⟩ := RH.own i a _ h1 hz
       refine ⟨a, us, v, rfl, rfl, q, by rw [r.length]; exact milLt hl, ?_⟩
       exact set_done RH h1 hz rfl p (fun U s => ⟨_, upd_same, (RZs.mono s (List.prefix_refl _) r).append ⟨v, [], rfl, RZ.mono s (List.prefix_refl _) rz, rfl⟩⟩) fun U s => rz_non.mpr rfl
     · exact p.elim
   · rename_i j hz
     obtain ⟨us, q, r⟩ := RH.own i a _ h1 hz
     rw [rds_nil.mp r] at q
     refine ⟨a, [], v, rfl, rfl, q, by decide, ?_⟩
     exact set_done RH h1 hz rfl p (fun U s => ⟨_, upd_same, ⟨v, [], rfl, RZ.mono s (List.prefix_refl _) rz, rfl⟩⟩) fun U s => rz_non.mpr rfl
   · exact p.elim
 · exact p.elim
def opPop : OpM := fun x zs h => match x, zs with
 | .r i, [] => match h[i]? with
   | some (.dl xs) => match xs.getLast? with
     | some y => .ok (.d y) (h.set i (.dl xs.dropLast))
     | none => .bad
   | _ => .bad
 | _, _ => .bad
theorem RDs.dropLast {U : Addr → Prop} {H : Hp} : ∀ {ds : List D} {vs : List V}, RDs g U H ds vs → RDs g U H ds.dropLast vs.dropLast
 | [], vs, h => by rw [rds_nil.mp h]; exact rds_nil.mpr rfl
 | [d], vs, h => by
   obtain ⟨v, vs', rfl, _, q⟩ := rds_cons.mp h
   rw [rds_nil.mp q]
   exact rds_nil.mpr rfl
 | d :: d2 :: ds, vs, h => by
   obtain ⟨v, vs', rfl, r, q⟩ := rds_cons.mp h
   obtain ⟨v2, vs2, rfl, r2, q2⟩ := rds_cons.mp q
   exact rds_cons.mpr ⟨v, _, rfl, r, RDs.dropLast (ds := d2 :: ds) q⟩
theorem RDs.reverse {U : Addr → Prop} {H : Hp} : ∀ {ds : List D} {vs : List V}, RDs g U H ds vs → RDs g U H ds.reverse vs.reverse
 | [], vs, h => by rw [rds_nil.mp h]; exact rds_nil.mpr rfl
 | d :: ds, vs, h => by
   obtain ⟨v, vs', rfl, r, q⟩ := rds_cons.mp h
   rw [List.reverse_cons, List.reverse_cons]
   exact (RDs.reverse q).append (rds_cons.mpr ⟨v, [], rfl, r, rds_nil.mpr rfl⟩)
theorem low_pop : LowM g rPop opPop := by
 intro F W ρ zσ zh σ H zx zs x vs Q RH rx rs p
 unfold opPop at p
 split at p
 · rename_i i
   obtain ⟨a, h1, rfl⟩ := rx
   rw [show vs = [] from rs]
   split at p
   · rename_i xs hz
     obtain ⟨us, q, r⟩ := RH.own i a _ h1 hz
     cases k : xs.getLast? with
     | none => rw [k] at p; exact p.elim
     | some y =>
       rw [k] at p
       rw [List.getLast?_eq_getElem?] at k
       obtain ⟨u, k1, k2⟩ := RDs.get r k
       refine ⟨a, us, u, rfl, rfl, q, by rw [r.length]; exact k1, ?_⟩
       exact set_done RH h1 hz rfl p (fun U s => ⟨_, upd_same, RDs.dropLast (RDs.mono s _ _ r)⟩) fun U s => RD.mono s _ _ k2
   · exact p.elim
 · exact p.elim
def opReverse : OpM := fun x zs h => match x, zs with
 | .r i, [] => match h[i]? with
   | some (.dl xs) => .ok (.d .non) (h.set i (.dl xs.reverse))
   | _ => .bad
 | _, _ => .bad
theorem low_reverse : LowM g rReverse opReverse := by
 intro F W ρ zσ zh σ H zx zs x vs Q RH rx rs p
 unfold opReverse at p
 split at p
 · rename_i i
   obtain ⟨a, h1, rfl⟩ := rx
   rw [show vs = [] from rs]
   split at p
   · rename_i xs hz
     obtain ⟨us, q, r⟩ := RH.own i a _ h1 hz
     refine ⟨a, us, rfl, rfl, q, ?_⟩
     exact set_done RH h1 hz rfl p (fun U s => ⟨_, upd_same, RDs.reverse (RDs.mono s _ _ r)⟩) fun U s => rz_non.mpr rfl
   · exact p.elim
 · exact p.elim
theorem z_append (hK : X.K = g.K) (ho : ZE g F X W o da) {d : DA} (ha : ZA g F X W [e] d)
   (hbase : attributeBase o "append" X.env (eval o X.env) = eval o X.env := by rfl)
   (hfew : ((backTo cpos (starEach [e] X.env)).all (fun x => !x.1) && (backToKw cpos (keywordEach [] X.env)).all (fun x => x.1.isSome)
     && decide ([e].length + ([] : List Keyword).length + (if ([] : List Keyword).isEmpty then 0 else 1) < 30)) = true := by rfl)
   (hline : (apos.endLine == cpos.line) = true := by rfl) (hs : starEach [e] X.env = (false, eval e X.env) :: starEach [] X.env := by rfl) (hplain : (backTo cpos (starEach [] X.env)).any (·.1) = false := by rfl) :
   ZE g F X W (.Call (.Attribute o "append" apos) [e] [] cpos) (dMeth isLst opAppend da d) :=
 z_meth PySem.F.plainAttrs_list PySem.F.slot_list_append PySem.F.type_list_append hK mt_append low_append ty_list ho ha hbase hfew hline hs hplain
theorem z_pop (hK : X.K = g.K) (ho : ZE g F X W o da) (hbase : attributeBase o "pop" X.env (eval o X.env) = eval o X.env := by rfl) (hline : (apos.endLine == cpos.line) = true := by rfl) : ZE g F X W (.Call (.Attribute o "pop" apos) [] [] cpos) (dMeth isLst opPop da dNil) :=
 z_meth0 PySem.F.plainAttrs_list PySem.F.slot_list_pop PySem.F.type_list_pop hK mt_pop low_pop ty_list ho hbase hline
theorem z_reverse (hK : X.K = g.K) (ho : ZE g F X W o da) (hbase : attributeBase o "reverse" X.env (eval o X.env) = eval o X.env := by rfl) (hline : (apos.endLine == cpos.line) = true := by rfl) : ZE g F X W (.Call (.Attribute o "reverse" apos) [] [] cpos) (dMeth isLst opReverse da dNil) :=
 z_meth0 PySem.F.plainAttrs_list PySem.F.slot_list_reverse PySem.F.type_list_reverse hK mt_reverse low_reverse ty_list ho hbase hline
end
end Zl
end
section
namespace Zl
open PySem PySem.Spec PyProof.Rows L2
section
variable {g : G} {F : Fr} {X : Cx} {W : WX} {a b c e o : Expr} {es : List Expr} {da db dc : DE} {pos : Pos} {st : Stmt} {sts : List Stmt}
def PostS (g : G) (F : Fr) (W : WX) (ρ : List Addr) (zh : ZH) (H : Hp) (out : OutS) (D : Ends) : Prop :=
 match out with
 | .nx s' h' => ∀ ρ' σ' H', Ext F ρ zh H ρ' h' H' → RelH g F ρ' h' H' → RelS g (UO F ρ' h') H' ρ' s' σ' → D.nx σ' H'
 | .rt z h' => ∀ ρ' v H', Ext F ρ zh H ρ' h' H' → RelH g F ρ' h' H' → RZ g (UO F ρ' h') H' ρ' z v → D.rt v H'
 | .bk s' h' => ∀ ρ' σ' H', Ext F ρ zh H ρ' h' H' → RelH g F ρ' h' H' → RelS g (UO F ρ' h') H' ρ' s' σ' → D.bk σ' H'
 | .ct s' h' => ∀ ρ' σ' H', Ext F ρ zh H ρ' h' H' → RelH g F ρ' h' H' → RelS g (UO F ρ' h') H' ρ' s' σ' → D.ct σ' H'
 | .exc x s' h' => ∀ ρ' σ' cls dx H', Ext F ρ zh H ρ' h' H' → RelH g F ρ' h' H' → RelS g (UO F ρ' h') H' ρ' s' σ' → RX g (UO F ρ' h') H' x cls dx → W cls dx σ' H'
 | .bad => False
def lowS (g : G) (F : Fr) (W : WX) (d : DS) : TS := fun D σ H => ∃ ρ zσ zh, RelH g F ρ zh H ∧ RelS g (UO F ρ zh) H ρ zσ σ ∧ PostS g F W ρ zh H (d zσ zh) D
def ZS1 (g : G) (F : Fr) (X : Cx) (W : WX) (st : Stmt) (d : DS) : Prop := PS X st (lowS g F W d)
def ZSs (g : G) (F : Fr) (X : Cx) (W : WX) (st : List Stmt) (d : DS) : Prop := PSs X st (lowS g F W d)
theorem PS.imp {X : Cx} {e : Stmt} {t t' : TS} (h : PS X e t) (k : ∀ D σ H, t' D σ H → t D σ H) : PS X e t' := ⟨fun pins s σ H D I q => h.run pins s σ H D I (k D σ H q)⟩
theorem PSs.imp {X : Cx} {e : List Stmt} {t t' : TS} (h : PSs X e t) (k : ∀ D σ H, t' D σ H → t D σ H) : PSs X e t' := ⟨fun pins s σ H D I q => h.run pins s σ H D I (k D σ H q)⟩
section
variable {ρ ρ1 : List Addr} {zσ zσ1 : ZS} {zh zh1 : ZH} {σ σ1 : L2.St} {H H1 : Hp} {D D' : Ends}
theorem PostS.shift (e : Ext F ρ zh H ρ1 zh1 H1) {out : OutS} (p : PostS g F W ρ zh H out D) : PostS g F W ρ1 zh1 H1 out D := by
 cases out with
 | nx s h => exact fun ρ' v H' e' => p ρ' v H' (e.trans e')
 | rt z h => exact fun ρ' v H' e' => p ρ' v H' (e.trans e')
 | bk s h => exact fun ρ' v H' e' => p ρ' v H' (e.trans e')
 | ct s h => exact fun ρ' v H' e' => p ρ' v H' (e.trans e')
 | exc x s h => exact fun ρ' v c d H' e' => p ρ' v c d H' (e.trans e')
 | bad => exact p
theorem PostS.done (r : RelH g F ρ zh H) (rs : RelS g (UO F ρ zh) H ρ zσ σ) (p : PostS g F W ρ zh H (.nx zσ zh) D) : D.nx σ H := p ρ σ H Ext.refl r rs
def Out.bndS {α : Type} (o : Out α) (s : ZS) (f : α → ZH → OutS) : OutS :=
 match o with
 | .ok a h => f a h
 | .exc x h => .exc x s h
 | .bad => .bad
theorem Post.bndS (rs : RelS g (UO F ρ zh) H ρ zσ σ) {out : Out Z} {f : Z → ZH → OutS} {K : VK} (p : PostS g F W ρ zh H (out.bndS zσ f) D)
   (h : ∀ ρ1 z zh1 v H1, Ext F ρ zh H ρ1 zh1 H1 → RelH g F ρ1 zh1 H1 → RZ g (UO F ρ1 zh1) H1 ρ1 z v → PostS g F W ρ1 zh1 H1 (f z zh1) D → K v H1) : Post g F W ρ zσ zh σ H out K := by
 cases out with
 | ok z zh1 => exact fun ρ' v H' e1 e2 e3 => h ρ' z zh1 v H' e1 e2 e3 (PostS.shift e1 p)
 | exc x h => exact fun ρ' cls dx H' e1 e2 e3 => p ρ' σ cls dx H' e1 e2 (rs.mono e1) e3
 | bad => exact p
theorem PostT.bndS (rs : RelS g (UO F ρ zh) H ρ zσ σ) {out : Out Bool} {f : Bool → ZH → OutS} {K : Bool → Hp → Prop} (p : PostS g F W ρ zh H (out.bndS zσ f) D)
   (h : ∀ ρ1 z zh1 H1, Ext F ρ zh H ρ1 zh1 H1 → RelH g F ρ1 zh1 H1 → PostS g F W ρ1 zh1 H1 (f z zh1) D → K z H1) : PostT g F W ρ zσ zh σ H out K := by
 cases out with
 | ok z zh1 => exact fun ρ' H' e1 e2 => h ρ' z zh1 H' e1 e2 (PostS.shift e1 p)
 | exc x h => exact fun ρ' cls dx H' e1 e2 e3 => p ρ' σ cls dx H' e1 e2 (rs.mono e1) e3
 | bad => exact p
end
def OutS.bnd (o : OutS) (f : ZS → ZH → OutS) : OutS :=
 match o with
 | .nx s h => f s h
 | o => o
def dSkip : DS := fun s h => .nx s h
def dSeq (d e : DS) : DS := fun s h => (d s h).bnd e
theorem zs_nil : ZSs g F X W [] dSkip := PSs.imp pss_nil fun D σ H ⟨ρ, zσ, zh, RH, RS, p⟩ => PostS.done RH RS p
theorem zs_cons {d d' : DS} (h1 : ZS1 g F X W st d) (h2 : ZSs g F X W sts d') : ZSs g F X W (st :: sts) (dSeq d d') := by
 refine PSs.imp (pss_cons h1 h2) fun D σ H ⟨ρ, zσ, zh, RH, RS, p⟩ => ?_
 refine ⟨ρ, zσ, zh, RH, RS, ?_⟩
 unfold dSeq at p
 cases k : d zσ zh with
 | nx s' h' =>
   rw [k] at p
   exact fun ρ' σ' H' e1 e2 e3 => ⟨ρ', s', h', e2, e3, PostS.shift e1 p⟩
 | rt z h' => rw [k] at p; exact p
 | bk s' h' => rw [k] at p; exact p
 | ct s' h' => rw [k] at p; exact p
 | exc x s' h' => rw [k] at p; exact p
 | bad => rw [k] at p; exact p
theorem zs_one {d : DS} (h1 : ZS1 g F X W st d) : ZSs g F X W [st] d := pss_one h1
def dDrop (d : DE) : DS := fun s h => (d s h).bndS s fun _ h1 => .nx s h1
theorem z_expr (he : ZE g F X W e da) (hs : swapsWith e none pos.line X.env = pure false := by rfl) : ZS1 g F X W (.Expr e pos) (dDrop da) := by
 refine PS.imp (ps_expr he hs) fun D σ H ⟨ρ, zσ, zh, RH, RS, p⟩ => ?_
 exact ⟨ρ, zσ, zh, RH, RS, Post.bndS RS p fun ρ1 z zh1 v H1 e1 R1 rz p1 => PostS.done R1 (RS.mono e1) p1⟩
def dRet (d : DE) : DS := fun s h => (d s h).bndS s fun z h1 => .rt z h1
theorem z_ret (he : ZE g F X W e da) : ZS1 g F X W (.Return (some e) pos) (dRet da) := by
 refine PS.imp (ps_ret he) fun D σ H ⟨ρ, zσ, zh, RH, RS, p⟩ => ?_
 exact ⟨ρ, zσ, zh, RH, RS, Post.bndS RS p fun ρ1 z zh1 v H1 e1 R1 rz p1 => p1 ρ1 v H1 Ext.refl R1 rz⟩
def dIf (t : DT) (d d' : DS) : DS := fun s h => (t s h).bndS s fun b h1 => if b = true then d s h1 else d' s h1
theorem z_ifs {t : DT} {d d' : DS} {xs ys : List Stmt} (hc : ZT g F X W c t) (ha : ZSs g F X W xs d) (hb : ZSs g F X W ys d') : ZS1 g F X W (.If c xs ys pos) (dIf t d d') := by
 refine PS.imp (ps_if hc ha hb) fun D σ H ⟨ρ, zσ, zh, RH, RS, p⟩ => ?_
 refine ⟨ρ, zσ, zh, RH, RS, PostT.bndS RS p fun ρ1 b zh1 H1 e1 R1 p1 => ?_⟩
 cases b with
 | true => exact iteT ⟨ρ1, zσ, zh1, R1, RS.mono e1, p1⟩
 | false => exact iteF ⟨ρ1, zσ, zh1, R1, RS.mono e1, p1⟩
def frzAt (i : Nat) (s : ZS) (h : ZH) : OutS := match s[i]? with
 | some (some (.r k)) => match h[k]? with
   | some (.dl xs) => .nx (s.set i (some (.d (.lst xs)))) (h.set k .gone)
   | _ => .bad
 | _ => .bad
def dFrz (i : Nat) (d : DS) : DS := fun s h => (frzAt i s h).bnd d
theorem RelS.set {U : Addr → Prop} {H : Hp} {ρ : List Addr} {zσ : ZS} {σ : L2.St} (r : RelS g U H ρ zσ σ) {i : Nat} {z : Z} {v : V} (rz : RZ g U H ρ z v) : RelS g U H ρ (zσ.set i (some z)) (σ.set i (some v)) := by
 refine ⟨by simp [r.1], fun j y h => ?_⟩
 by_cases e : i = j
 · subst e
   obtain ⟨hl, k⟩ := List.getElem?_eq_some_iff.mp h
   rw [List.getElem_set_self] at k
   cases k
   have hl2 : i < σ.length := by rw [r.1]; simpa using hl
   exact ⟨v, by rw [List.getElem?_set_self hl2], rz⟩
 · rw [List.getElem?_set_ne e] at h
   obtain ⟨u, h1, h2⟩ := r.2 j y h
   exact ⟨u, by rw [List.getElem?_set_ne e]; exact h1, h2⟩
theorem RelS.reset {U : Addr → Prop} {H : Hp} {ρ : List Addr} {zσ : ZS} {σ : L2.St} (r : RelS g U H ρ zσ σ) {i : Nat} {z : Z} {v : V} (hv : σ[i]? = some (some v)) (rz : RZ g U H ρ z v) : RelS g U H ρ (zσ.set i (some z)) σ := by
 have q := r.set (i := i) rz
 have e : σ.set i (some v) = σ := by
   apply List.ext_getElem?
   intro j
   by_cases k : i = j
   · subst k
     obtain ⟨hl, _⟩ := List.getElem?_eq_some_iff.mp hv
     rw [List.getElem?_set_self hl, hv]
   · rw [List.getElem?_set_ne k]
 rw [e] at q
 exact q
theorem zs_frz (i : Nat) {d : DS} (h : ZSs g F X W sts d) : ZSs g F X W sts (dFrz i d) := by
 refine PSs.imp h fun D σ H ⟨ρ, zσ, zh, RH, RS, p⟩ => ?_
 unfold dFrz frzAt at p
 split at p
 · rename_i k hs
   obtain ⟨v, hv, a, h1, rfl⟩ := RS.2 i _ hs
   split at p
   · rename_i xs hz
     obtain ⟨us, q, r⟩ := RH.own k a _ h1 hz
     obtain ⟨R1, e1⟩ := RH.freeze hz rfl
     refine ⟨ρ, _, _, R1, (RS.mono e1).reset hv (z := .d (.lst xs)) ?_, PostS.shift e1 p⟩
     exact rd_lst.mpr ⟨a, us, rfl, RH.gone_notU h1, q, RDs.mono e1.stb _ _ r⟩
   · exact p.elim
 · exact p.elim
abbrev DG := Z → ZS → ZH → OutS
def lowG (g : G) (F : Fr) (W : WX) (d : DG) : TG := fun v σ H Q => ∃ ρ zσ zh z, RelH g F ρ zh H ∧ RelS g (UO F ρ zh) H ρ zσ σ ∧ RZ g (UO F ρ zh) H ρ z v ∧ PostS g F W ρ zh H (d z zσ zh) { nx := Q, rt := fun _ _ => False }
def ZG (g : G) (F : Fr) (X : Cx) (W : WX) (e : Expr) (d : DG) : Prop := PG X e (lowG g F W d)
theorem PG.imp {X : Cx} {e : Expr} {t t' : TG} (h : PG X e t) (k : ∀ v σ H Q, t' v σ H Q → t v σ H Q) : PG X e t' := ⟨fun pins s σ H v u Q I r q => h.run pins s σ H v u Q I r (k v σ H Q q)⟩
def gSet (i : Nat) : DG := fun z s h => .nx (s.set i (some z)) h
theorem zg_name (i : Nat) {x : Str} (hN : X.N.Nodup) (hi : X.N[i]? = some x := by rfl) (hx : Loc X.env.scope x := by first | exact Or.inl rfl | exact Or.inr rfl)
   (hf : X.fn x = true ∨ X.env.scope.names.lookup x = some .local := by first | exact .inl rfl | exact .inr rfl | assumption) : ZG g F X W (.Name x pos) (gSet i) := by
 refine PG.imp (pg_name hN hi hx hf) fun v σ H Q ⟨ρ, zσ, zh, z, RH, RS, rz, p⟩ => ?_
 exact p ρ _ H Ext.refl RH (RS.set rz)
def dAsg (d : DE) (t : DG) : DS := fun s h => (d s h).bndS s fun z h1 => t z s h1
theorem PostS.ends {ρ : List Addr} {zh : ZH} {H : Hp} {out : OutS} {D : Ends} (p : PostS g F W ρ zh H out D) (n : ∀ z h, out ≠ .rt z h) (nb : ∀ s h, out ≠ .bk s h) (nc : ∀ s h, out ≠ .ct s h) : PostS g F W ρ zh H out { nx := D.nx, rt := fun _ _ => False } := by
 cases out with
 | nx s h => exact p
 | rt z h => exact absurd rfl (n z h)
 | bk s h => exact absurd rfl (nb s h)
 | ct s h => exact absurd rfl (nc s h)
 | exc x s h => exact p
 | bad => exact p
def GOk (t : DG) : Prop := ∀ z s h, (∀ z' h', t z s h ≠ .rt z' h') ∧ (∀ s' h', t z s h ≠ .bk s' h') ∧ ∀ s' h', t z s h ≠ .ct s' h'
theorem gSet_ok {i : Nat} : GOk (gSet i) := fun _ _ _ => ⟨(fun _ _ q => nomatch q), (fun _ _ q => nomatch q), (fun _ _ q => nomatch q)⟩
theorem z_set (i : Nat) {x : Str} {pos' : Pos} (hN : X.N.Nodup) (he : ZE g F X W e da) (hi : X.N[i]? = some x := by rfl) (hx : Loc X.env.scope x := by first | exact Or.inl rfl | exact Or.inr rfl)
   (hs : swapsWith e (some (.Name x pos')) pos.line X.env = pure false := by rfl) (hf : X.fn x = true ∨ X.env.scope.names.lookup x = some .local := by first | exact .inl rfl | exact .inr rfl | assumption) :
   ZS1 g F X W (.Assign [.Name x pos'] e pos) (dAsg da (gSet i)) := by
 refine PS.imp (ps_set hN hi hx he hs hf) fun D σ H ⟨ρ, zσ, zh, RH, RS, p⟩ => ?_
 refine ⟨ρ, zσ, zh, RH, RS, Post.bndS RS p fun ρ1 z zh1 v H1 e1 R1 rz p1 => ?_⟩
 exact p1 ρ1 _ H1 Ext.refl R1 ((RS.mono e1).set rz)
structure ZIt where
 items : List Z
 own : Option (Nat × ZO)
def ZIt.guard (it : ZIt) (h : ZH) : Prop := match it.own with
 | none => True
 | some (i, o) => h[i]? = some o
def ItOk (g : G) (F : Fr) (ρ : List Addr) (zh : ZH) (H : Hp) (J : It) (it : ZIt) : Prop := ∀ (F1 : Fr) ρ1 zh1 H1, ρ <+: ρ1 → Stb (UO F ρ zh) H (UO F1 ρ1 zh1) H1 → RelH g F1 ρ1 zh1 H1 → it.guard zh1 →
 (∀ k z, it.items[k]? = some z → J.go k H1 ∧ ∀ x H2, J.yld k H1 x H2 → Ext F1 ρ1 zh1 H1 ρ1 zh1 H2 ∧ RelH g F1 ρ1 zh1 H2 ∧ RZ g (UO F1 ρ1 zh1) H2 ρ1 z x) ∧ J.stop it.items.length H1
abbrev DI := ZS → ZH → Out ZIt
def PostI (g : G) (F : Fr) (W : WX) (ρ : List Addr) (zσ : ZS) (zh : ZH) (σ : L2.St) (H : Hp) (out : Out ZIt) (R : It → Hp → Prop) : Prop :=
 match out with
 | .ok it zh' => ∀ ρ' J H', Ext F ρ zh H ρ' zh' H' → RelH g F ρ' zh' H' → it.guard zh' → ItOk g F ρ' zh' H' J it → R J H'
 | .exc x zh' => ∀ ρ' cls dx H', Ext F ρ zh H ρ' zh' H' → RelH g F ρ' zh' H' → RX g (UO F ρ' zh') H' x cls dx → W cls dx σ H'
 | .bad => False
def lowI (g : G) (F : Fr) (W : WX) (d : DI) : TI := fun σ H R => ∃ ρ zσ zh, RelH g F ρ zh H ∧ RelS g (UO F ρ zh) H ρ zσ σ ∧ PostI g F W ρ zσ zh σ H (d zσ zh) R
def ZI (g : G) (F : Fr) (X : Cx) (W : WX) (tg : Expr) (e : Expr) (d : DI) : Prop := PI X tg e (lowI g F W d)
theorem PI.imp {X : Cx} {tg e : Expr} {t t' : TI} (h : PI X tg e t) (k : ∀ σ H R, t' σ H R → t σ H R) : PI X tg e t' := ⟨fun pins s σ H R I q => h.run pins s σ H R I (k σ H R q)⟩
open Classical in
noncomputable def forLoop (gd : ZH → Prop) (t : DG) (d : DS) : List Z → DS
 | [], s, h => .nx s h
 | z :: zs, s, h => match t z s h with
   | .nx s1 h1 => match d s1 h1 with
     | .nx s2 h2 => if gd h2 then forLoop gd t d zs s2 h2 else .bad
     | .ct s2 h2 => if gd h2 then forLoop gd t d zs s2 h2 else .bad
     | .bk s2 h2 => .nx s2 h2
     | o => o
   | o => o
noncomputable def dFor (i : DI) (t : DG) (d : DS) : DS := fun s h => (i s h).bndS s fun it h1 => forLoop it.guard t d it.items s h1
theorem z_for {iter tg : Expr} {body : List Stmt} {di : DI} {t : DG} {d : DS} (hp : PassesOwn (model X.prog X.w) X.A X.env X.xe) (hc : X.calm = true) (hi : ZI g F X W tg iter di) (hg : ZG g F X W tg t) (hk : GOk t) (hb : ZSs g F X W body d)
   (hs : ∀ x, foldedSetIterable iter X.env x = pure x := by intro _; rfl) : ZS1 g F X W (.For tg iter body [] pos) (dFor di t d) := by
 refine PS.imp (ps_for hp hc hi hg hb hs) fun D σ H ⟨ρ, zσ, zh, RH, RS, p⟩ => ?_
 refine ⟨ρ, zσ, zh, RH, RS, ?_⟩
 unfold dFor at p
 cases k : di zσ zh with
 | bad => rw [k] at p; exact p.elim
 | exc x h' =>
   rw [k] at p
   exact fun ρ' cls dx H' e1 e2 e3 => p ρ' σ cls dx H' e1 e2 (RS.mono e1) e3
 | ok it zh0 =>
   rw [k] at p
   have p : PostS g F W ρ zh H (forLoop it.guard t d it.items zσ zh0) D := p
   refine fun ρ0 J H0 e0 R0 hg0 ok => ?_
   refine ⟨fun i m σ1 H1 => m = it.items.length - i ∧ i ≤ it.items.length ∧ ∃ ρ1 zσ1 zh1, RelH g F ρ1 zh1 H1 ∧ RelS g (UO F ρ1 zh1) H1 ρ1 zσ1 σ1 ∧ Ext F ρ0 zh0 H0 ρ1 zh1 H1 ∧ it.guard zh1 ∧ PostS g F W ρ1 zh1 H1 (forLoop it.guard t d (it.items.drop i) zσ1 zh1) D,
     ⟨_, rfl, Nat.zero_le _, ρ0, zσ, zh0, R0, RS.mono e0, Ext.refl, hg0, PostS.shift e0 p⟩, ?_⟩
   rintro i m σ1 H1 ⟨rfl, hi, ρ1, zσ1, zh1, R1, S1, e1, g1, p1⟩
   obtain ⟨hgo, hstop⟩ := ok F ρ1 zh1 H1 e1.pre e1.stb R1 g1
   by_cases hlt : i < it.items.length
   · refine .inr ?_
     have hd : it.items.drop i = it.items[i] :: it.items.drop (i + 1) := List.drop_eq_getElem_cons hlt
     rw [hd] at p1
     obtain ⟨go, yl⟩ := hgo i _ (List.getElem?_eq_getElem hlt)
     refine ⟨go, fun σ' H' => i + 1 ≤ it.items.length ∧ ∃ ρ2 zσ2 zh2, RelH g F ρ2 zh2 H' ∧ RelS g (UO F ρ2 zh2) H' ρ2 zσ2 σ' ∧ Ext F ρ0 zh0 H0 ρ2 zh2 H' ∧ it.guard zh2 ∧ PostS g F W ρ2 zh2 H' (forLoop it.guard t d (it.items.drop (i + 1)) zσ2 zh2) D,
       fun σ' H' q => ⟨it.items.length - (i + 1), by omega, rfl, q⟩, fun x H2 y => ?_⟩
     obtain ⟨e2, R2, rz⟩ := yl x H2 y
     refine ⟨ρ1, zσ1, zh1, it.items[i], R2, S1.mono e2, rz, ?_⟩
     unfold forLoop at p1
     have p1 := PostS.shift e2 p1
     have kk := hk it.items[i] zσ1 zh1
     cases ht : t it.items[i] zσ1 zh1 with
     | bad => rw [ht] at p1; exact p1
     | rt z h' => exact absurd ht (kk.1 z h')
     | bk z h' => exact absurd ht (kk.2.1 z h')
     | ct z h' => exact absurd ht (kk.2.2 z h')
     | exc x' s' h' => rw [ht] at p1; exact p1
     | nx s3 h3 =>
       rw [ht] at p1
       simp only at p1
       refine fun ρ3 σ3 H3 e3 R3 S3 => ⟨ρ3, s3, h3, R3, S3, ?_⟩
       have p1 := PostS.shift e3 p1
       have e03 : Ext F ρ0 zh0 H0 ρ3 h3 H3 := (e1.trans e2).trans e3
       cases hd' : d s3 h3 with
       | bad => rw [hd'] at p1; exact p1
       | rt z h' => rw [hd'] at p1; exact p1
       | exc x' s' h' => rw [hd'] at p1; exact p1
       | bk s4 h4 =>
         rw [hd'] at p1
         exact p1
       | nx s4 h4 =>
         rw [hd'] at p1
         simp only at p1
         by_cases hgd : it.guard h4
         · rw [if_pos hgd] at p1
           exact fun ρ4 σ4 H4 e4 R4 S4 => ⟨hlt, ρ4, s4, h4, R4, S4, e03.trans e4, hgd, PostS.shift e4 p1⟩
         · rw [if_neg hgd] at p1; exact p1.elim
       | ct s4 h4 =>
         rw [hd'] at p1
         simp only at p1
         by_cases hgd : it.guard h4
         · rw [if_pos hgd] at p1
           exact fun ρ4 σ4 H4 e4 R4 S4 => ⟨hlt, ρ4, s4, h4, R4, S4, e03.trans e4, hgd, PostS.shift e4 p1⟩
         · rw [if_neg hgd] at p1; exact p1.elim
   · have e : i = it.items.length := by omega
     subst e
     rw [List.drop_length] at p1
     exact .inl ⟨hstop, PostS.done R1 S1 p1⟩
def iSeq (d : DE) : DI := fun s h => (d s h).bnd fun z h1 => match z with
 | .d (.lst xs) => .ok ⟨xs.map .d, none⟩ h1
 | .r i => match h1[i]? with
   | some (.dl xs) => .ok ⟨xs.map .d, some (i, .dl xs)⟩ h1
   | some (.zl zs) => .ok ⟨zs, some (i, .zl zs)⟩ h1
   | _ => .bad
 | _ => .bad
theorem rzs_map {U : Addr → Prop} {H : Hp} {ρ : List Addr} : ∀ {xs : List D} {vs : List V}, RDs g U H xs vs → RZs g U H ρ (xs.map .d) vs
 | [], vs, h => rds_nil.mp h
 | d :: ds, vs, h => by
   obtain ⟨v, vs', e, r, q⟩ := rds_cons.mp h
   exact ⟨v, vs', e, r, rzs_map q⟩
theorem Post.bndI {ρ : List Addr} {zσ : ZS} {zh : ZH} {σ : L2.St} {H : Hp} {out : Out Z} {f : Z → ZH → Out ZIt} {R : It → Hp → Prop} {K : VK} (p : PostI g F W ρ zσ zh σ H (out.bnd f) R)
   (h : ∀ ρ1 z zh1 v H1, Ext F ρ zh H ρ1 zh1 H1 → RelH g F ρ1 zh1 H1 → RZ g (UO F ρ1 zh1) H1 ρ1 z v → PostI g F W ρ1 zσ zh1 σ H1 (f z zh1) R → K v H1) : Post g F W ρ zσ zh σ H out K := by
 cases out with
 | ok z zh1 =>
   refine fun ρ' v H' e1 e2 e3 => h ρ' z zh1 v H' e1 e2 e3 ?_
   have p : PostI g F W ρ zσ zh σ H (f z zh1) R := p
   cases hf : f z zh1 with
   | ok it h2 => rw [hf] at p; exact fun ρ2 J H2 e4 => p ρ2 J H2 (e1.trans e4)
   | exc x h2 => rw [hf] at p; exact fun ρ2 c d H2 e4 => p ρ2 c d H2 (e1.trans e4)
   | bad => rw [hf] at p; exact p
 | exc x h => exact p
 | bad => exact p
theorem zi_list {tg : Expr} (hK : X.K = g.K) (he : ZE g F X W e da) : ZI g F X W tg e (iSeq da) := by
 refine PI.imp (pi_list he) fun σ H R ⟨ρ, zσ, zh, RH, RS, p⟩ => ?_
 refine ⟨ρ, zσ, zh, RH, RS, Post.bndI p fun ρ1 z zh1 v H1 e1 R1 rz p1 => ?_⟩
 rw [hK]
 split at p1
 · rename_i xs
   obtain ⟨a, vs, rfl, nu, q, r⟩ := rd_lst.mp rz
   refine ⟨a, rfl, ⟨vs, SqL.of q⟩, p1 ρ1 _ H1 Ext.refl R1 trivial ?_⟩
   intro F2 ρ2 zh2 H2 pre stb R2 _
   have q2 := (stb a _ q nu).1
   have r2 := RDs.mono stb _ _ r
   refine ⟨fun k z hz => ?_, vs, SqL.of q2, by rw [List.length_map, r2.length]; exact Nat.le_refl _⟩
   obtain ⟨v, h1, h2⟩ := RZs.get (rzs_map (ρ := ρ2) r2) hz
   refine ⟨⟨vs, v, SqL.of q2, h1⟩, fun x H3 ⟨e3, y⟩ => ?_⟩
   subst e3
   have := y vs (SqL.of q2)
   rw [h1] at this
   cases this
   exact ⟨Ext.refl, R2, h2⟩
 · rename_i i
   obtain ⟨a, h1, rfl⟩ := rz
   split at p1
   · rename_i xs hz
     obtain ⟨vs, q, r⟩ := R1.own i a _ h1 hz
     refine ⟨a, rfl, ⟨vs, SqL.of q⟩, p1 ρ1 _ H1 Ext.refl R1 hz ?_⟩
     intro F2 ρ2 zh2 H2 pre stb R2 gd
     obtain ⟨us, q2, r2⟩ := R2.own i a _ (pre_get pre h1) gd
     refine ⟨fun k z hz => ?_, us, SqL.of q2, by rw [List.length_map, r2.length]; exact Nat.le_refl _⟩
     obtain ⟨v, h1, h2⟩ := RZs.get (rzs_map (ρ := ρ2) r2) hz
     refine ⟨⟨us, v, SqL.of q2, h1⟩, fun x H3 ⟨e3, y⟩ => ?_⟩
     subst e3
     have := y us (SqL.of q2)
     rw [h1] at this
     cases this
     exact ⟨Ext.refl, R2, h2⟩
   · rename_i xs hz
     obtain ⟨vs, q, r⟩ := R1.own i a _ h1 hz
     refine ⟨a, rfl, ⟨vs, SqL.of q⟩, p1 ρ1 _ H1 Ext.refl R1 hz ?_⟩
     intro F2 ρ2 zh2 H2 pre stb R2 gd
     obtain ⟨us, q2, r2⟩ := R2.own i a _ (pre_get pre h1) gd
     refine ⟨fun k z hz => ?_, us, SqL.of q2, by rw [r2.length]; exact Nat.le_refl _⟩
     obtain ⟨v, h1, h2⟩ := RZs.get r2 hz
     refine ⟨⟨us, v, SqL.of q2, h1⟩, fun x H3 ⟨e3, y⟩ => ?_⟩
     subst e3
     have := y us (SqL.of q2)
     rw [h1] at this
     cases this
     exact ⟨Ext.refl, R2, h2⟩
   · exact p1.elim
 · exact p1.elim
def iTupI (d : DE) : DI := fun s h => (d s h).bnd fun z h1 => match z with
 | .d (.tup xs) => .ok ⟨xs.map .d, none⟩ h1
 | _ => .bad
theorem zi_tup {tg : Expr} (hK : X.K = g.K) (he : ZE g F X W e da) : ZI g F X W tg e (iTupI da) := by
 refine PI.imp (pi_tup he) fun σ H R ⟨ρ, zσ, zh, RH, RS, p⟩ => ?_
 refine ⟨ρ, zσ, zh, RH, RS, Post.bndI p fun ρ1 z zh1 v H1 e1 R1 rz p1 => ?_⟩
 rw [hK]
 split at p1
 · rename_i xs
   obtain ⟨a, vs, rfl, nu, q, r⟩ := rd_tup.mp rz
   refine ⟨a, rfl, ⟨vs, .inl q⟩, p1 ρ1 _ H1 Ext.refl R1 trivial ?_⟩
   intro F2 ρ2 zh2 H2 pre stb R2 _
   have q2 : SqT g.K H2 a vs := .inl (Rd.stb stb nu q).1
   have r2 := RDs.mono stb _ _ r
   refine ⟨fun k z hz => ?_, vs, q2, by rw [List.length_map, r2.length]; exact Nat.le_refl _⟩
   obtain ⟨v, h1, h2⟩ := RZs.get (rzs_map (ρ := ρ2) r2) hz
   refine ⟨⟨vs, v, q2, h1⟩, fun x H3 ⟨e3, y⟩ => ?_⟩
   subst e3
   have := y vs q2
   rw [h1] at this
   cases this
   exact ⟨Ext.refl, R2, h2⟩
 · exact p1.elim
def rangeZ (lo : Int) (n : Nat) : List Z := (List.range n).map fun (i : Nat) => .d (.int (lo + i))
def iRange1 (d : DA) : DI := fun s h => (d s h).bnd fun zs h1 => match zs with
 | [.d (.int j)] => if decide (-4611686018427387904 ≤ j) && decide (j < 4611686018427387904) then .ok ⟨rangeZ 0 j.toNat, none⟩ h1 else .bad
 | _ => .bad
theorem itok_range {ρ : List Addr} {zh : ZH} {H : Hp} {lo : Int} {n : Nat} : ItOk g F ρ zh H (Itr lo n) ⟨rangeZ lo n, none⟩ := by
 intro F2 ρ2 zh2 H2 pre stb R2 _
 refine ⟨fun k z hz => ?_, by show n ≤ (rangeZ lo n).length; simp [rangeZ]⟩
 unfold rangeZ at hz
 obtain ⟨hl, e⟩ := List.getElem?_eq_some_iff.mp hz
 simp at hl e
 subst e
 refine ⟨hl, fun x H3 ⟨e3, y⟩ => ?_⟩
 subst e3; subst y
 exact ⟨Ext.refl, R2, rz_int.mpr rfl⟩
theorem PostA.bndI {ρ : List Addr} {zσ : ZS} {zh : ZH} {σ : L2.St} {H : Hp} {out : Out (List Z)} {f : List Z → ZH → Out ZIt} {R : It → Hp → Prop} {K : List V → Hp → Prop} (p : PostI g F W ρ zσ zh σ H (out.bnd f) R)
   (h : ∀ ρ1 z zh1 v H1, Ext F ρ zh H ρ1 zh1 H1 → RelH g F ρ1 zh1 H1 → RZs g (UO F ρ1 zh1) H1 ρ1 z v → PostI g F W ρ1 zσ zh1 σ H1 (f z zh1) R → K v H1) : PostA g F W ρ zσ zh σ H out K := by
 cases out with
 | ok z zh1 =>
   refine fun ρ' v H' e1 e2 e3 => h ρ' z zh1 v H' e1 e2 e3 ?_
   have p : PostI g F W ρ zσ zh σ H (f z zh1) R := p
   cases hf : f z zh1 with
   | ok it h2 => rw [hf] at p; exact fun ρ2 J H2 e4 => p ρ2 J H2 (e1.trans e4)
   | exc x h2 => rw [hf] at p; exact fun ρ2 c d H2 e4 => p ρ2 c d H2 (e1.trans e4)
   | bad => rw [hf] at p; exact p
 | exc x h => exact p
 | bad => exact p
theorem zi_range1 {tg : Expr} {p : Pos} {d : DA} (hg : Gl X "range") (hm : X.mg "range" = none) (ha : ZA g F X W [a] d) (hs : starEach [a] X.env = [(false, eval a X.env)] := by rfl) : ZI g F X W tg (.Call (.Name "range" p) [a] [] pos) (iRange1 d) := by
 refine PI.imp (pi_range1 hg hm ha hs) fun σ H R ⟨ρ, zσ, zh, RH, RS, p⟩ => ?_
 refine ⟨ρ, zσ, zh, RH, RS, PostA.bndI p fun ρ1 zs zh1 vs H1 e1 R1 rz p1 => ?_⟩
 split at p1
 · rename_i j
   obtain ⟨v, rfl, q⟩ := rzs_one rz
   rw [rz_int.mp q]
   split at p1
   · rename_i hb
     simp only [Bool.and_eq_true, decide_eq_true_eq] at hb
     exact ⟨j, rfl, by omega, by omega, p1 ρ1 _ H1 Ext.refl R1 trivial itok_range⟩
   · exact p1.elim
 · exact p1.elim
end
end Zl
end
section
namespace Zl
open PySem PySem.Spec PyProof.Rows L2
def refsZ : Z → List Nat
 | .r i => [i]
 | .d _ => []
 | .e _ => []
def refsO : ZO → List Nat
 | .zl zs => zs.flatMap refsZ
 | .ins _ fs => fs.flatMap fun p => refsZ p.2
 | _ => []
def reach (h : ZH) : Nat → List Nat → List Nat → List Nat
 | 0, _, acc => acc
 | _ + 1, [], acc => acc
 | n + 1, i :: w, acc => if acc.contains i then reach h n w acc else reach h n (refsO (h.getD i .gone) ++ w) (acc ++ [i])
def nodupB : List Nat → Bool
 | [] => true
 | i :: r => !r.contains i && nodupB r
def closedB (h : ZH) (fp : List Nat) (zs : List Z) : Bool :=
 (zs.flatMap refsZ).all (fun i => fp.contains i) && fp.all (fun i => decide (i < h.length) && (refsO (h.getD i .gone)).all fun j => fp.contains j) && nodupB fp
def renZ (fp : List Nat) : Z → Z
 | .r i => .r (fp.idxOf i)
 | .d x => .d x
 | .e a => .e a
def renO (fp : List Nat) : ZO → ZO
 | .zl zs => .zl (zs.map (renZ fp))
 | .ins c fs => .ins c (fs.map fun p => (p.1, renZ fp p.2))
 | o => o
def unZ (fp : List Nat) (n : Nat) : Z → Z
 | .r j => .r (if j < fp.length then fp.getD j 0 else n + (j - fp.length))
 | .d x => .d x
 | .e a => .e a
def unO (fp : List Nat) (n : Nat) : ZO → ZO
 | .zl zs => .zl (zs.map (unZ fp n))
 | .ins c fs => .ins c (fs.map fun p => (p.1, unZ fp n p.2))
 | o => o
def putFp : List Nat → List ZO → ZH → ZH
 | i :: is, o :: os, h => putFp is os (h.set i o)
 | _, _, h => h
def putBack (fp : List Nat) (h h' : ZH) : ZH := putFp fp (h'.map (unO fp h.length)) h ++ (h'.drop fp.length).map (unO fp h.length)
abbrev Sem := List Z → ZH → Out Z
@[irreducible] def callZ (M : Sem) (zs : List Z) (h : ZH) : Out Z :=
 let fp := reach h 40 (zs.flatMap refsZ) []
 if closedB h fp zs = true then
   match M (zs.map (renZ fp)) (fp.map fun i => renO fp (h.getD i .gone)) with
   | .ok z h' => .ok (unZ fp h.length z) (putBack fp h h')
   | .exc x h' => .exc x (putBack fp h h')
   | .bad => .bad
 else .bad
def lowF (g : G) (M : Sem) : Sp := fun vs H Q E => ∃ F ρ zs zh, RelH g F ρ zh H ∧ RZs g (UO F ρ zh) H ρ zs vs ∧ Post g F (fun c d _ H' => E c d H') ρ [] zh [] H (M zs zh) Q
theorem nodupB_ok : ∀ {l : List Nat}, nodupB l = true → l.Nodup
 | [], _ => List.nodup_nil
 | i :: r, h => by
   unfold nodupB at h
   simp only [Bool.and_eq_true, Bool.not_eq_true'] at h
   refine List.nodup_cons.mpr ⟨fun m => ?_, nodupB_ok h.2⟩
   rw [List.contains_iff_mem.mpr m] at h
   exact Bool.noConfusion h.1
theorem putFp_length : ∀ (fp : List Nat) (os : List ZO) (h : ZH), (putFp fp os h).length = h.length
 | [], _, h => by cases ‹List ZO› <;> rfl
 | i :: is, [], h => rfl
 | i :: is, o :: os, h => by
   show (putFp is os (h.set i o)).length = h.length
   rw [putFp_length is os]; simp
theorem putFp_out : ∀ (fp : List Nat) (os : List ZO) (h : ZH) (i : Nat), i ∉ fp → (putFp fp os h)[i]? = h[i]?
 | [], os, h, i, _ => by cases os <;> rfl
 | j :: is, [], h, i, _ => rfl
 | j :: is, o :: os, h, i, n => by
   show (putFp is os (h.set j o))[i]? = h[i]?
   rw [putFp_out is os _ i fun m => n (List.mem_cons_of_mem _ m)]
   exact List.getElem?_set_ne fun e => n (by rw [e]; exact List.mem_cons_self)
theorem putFp_in : ∀ (fp : List Nat) (os : List ZO) (h : ZH) (k i : Nat) (o : ZO), fp.Nodup → fp[k]? = some i → os[k]? = some o → i < h.length → (putFp fp os h)[i]? = some o
 | [], _, _, k, i, _, _, e, _, _ => by simp at e
 | j :: is, [], h, k, i, o, _, _, e, _ => by simp at e
 | j :: is, o' :: os, h, 0, i, o, nd, e1, e2, hl => by
   simp at e1 e2
   subst e1; subst e2
   show (putFp is os (h.set j o'))[j]? = some o'
   rw [putFp_out is os _ j (List.nodup_cons.mp nd).1]
   exact List.getElem?_set_self hl
 | j :: is, o' :: os, h, k + 1, i, o, nd, e1, e2, hl => by
   show (putFp is os (h.set j o'))[i]? = some o
   exact putFp_in is os _ k i o (List.nodup_cons.mp nd).2 (by simpa using e1) (by simpa using e2) (by simpa using hl)
section
variable {g : G} {F : Fr} {W : WX} {ρ : List Addr} {zσ : ZS} {zh : ZH} {σ : L2.St} {H : Hp} {fp : List Nat}
theorem renO_live (o : ZO) : (renO fp o).live = o.live := by cases o <;> rfl
theorem unO_live {n : Nat} (o : ZO) : (unO fp n o).live = o.live := by cases o <;> rfl
def selR (fp : List Nat) (ρ : List Addr) : List Addr := fp.map fun i => ρ.getD i 0
theorem selR_get {k i : Nat} (h : fp[k]? = some i) {a : Addr} (ha : ρ[i]? = some a) : (selR fp ρ)[k]? = some a := by
 unfold selR
 rw [List.getElem?_map, h]
 simp [List.getD_eq_getElem?_getD, ha]
theorem selR_inv (hlt : ∀ i ∈ fp, i < ρ.length) {k : Nat} {a : Addr} (h : (selR fp ρ)[k]? = some a) : ∃ i, fp[k]? = some i ∧ ρ[i]? = some a := by
 unfold selR at h
 rw [List.getElem?_map] at h
 cases e : fp[k]? with
 | none => rw [e] at h; cases h
 | some i =>
   rw [e] at h
   have hi := hlt i (List.mem_of_getElem? e)
   simp [List.getD_eq_getElem?_getD, List.getElem?_eq_getElem hi] at h
   exact ⟨i, rfl, by rw [List.getElem?_eq_getElem hi, h]⟩
theorem idx_get {i : Nat} (h : i ∈ fp) : fp[fp.idxOf i]? = some i := by
 rw [List.getElem?_eq_getElem (List.idxOf_lt_length_of_mem h)]
 simp
theorem ren_z {U : Addr → Prop} {z : Z} {v : V} (r : RZ g U H ρ z v) (h : ∀ i ∈ refsZ z, i ∈ fp) : RZ g U H (selR fp ρ) (renZ fp z) v := by
 cases z with
 | d x => exact r
 | e x => exact r
 | r i =>
   obtain ⟨a, e, k⟩ := r
   exact ⟨a, selR_get (idx_get (h i (by simp [refsZ]))) e, k⟩
theorem ren_zs {U : Addr → Prop} : ∀ {zs : List Z} {vs : List V}, RZs g U H ρ zs vs → (∀ i ∈ zs.flatMap refsZ, i ∈ fp) → RZs g U H (selR fp ρ) (zs.map (renZ fp)) vs
 | [], vs, r, _ => r
 | z :: zs, vs, ⟨v, vs', e, r, q⟩, h => ⟨v, vs', e, ren_z r fun i hi => h i (by simp [List.flatMap_cons, hi]), ren_zs q fun i hi => h i (by
     rw [List.flatMap_cons]; exact List.mem_append_right _ hi)⟩
theorem ren_o {U : Addr → Prop} {a : Addr} {o : ZO} (r : RO g U H ρ a o) (h : ∀ i ∈ refsO o, i ∈ fp) : RO g U H (selR fp ρ) a (renO fp o) := by
 cases o with
 | gone => exact r
 | dl xs => exact r
 | dic ks vs => exact r
 | dit ks vs => exact r
 | zl zs =>
   obtain ⟨vs, q, r⟩ := r
   exact ⟨vs, q, ren_zs r h⟩
 | ins c fs =>
   obtain ⟨hc, hf, dx, fvs, q, k, r⟩ := r
   refine ⟨hc, fun p hp => ?_, dx, fvs, q, ?_, ?_⟩
   · obtain ⟨p0, h0, e0⟩ := List.mem_map.mp hp
     rw [← e0]
     exact hf p0 h0
   · rw [k, List.map_map, List.map_map, List.map_map]; rfl
   · have e : (fs.map fun p => (p.1, renZ fp p.2)).map (·.2) = (fs.map (·.2)).map (renZ fp) := by rw [List.map_map, List.map_map]; rfl
     rw [e]
     refine ren_zs r fun i hi => h i ?_
     unfold refsO
     rw [List.flatMap_map] at hi
     exact hi
theorem un_z {U : Addr → Prop} {ρc' : List Addr} {n : Nat} (hn : ρ.length = n) (hlt : ∀ i ∈ fp, i < n) (hp : selR fp ρ <+: ρc') {z : Z} {v : V} (r : RZ g U H ρc' z v) : RZ g U H (ρ ++ ρc'.drop fp.length) (unZ fp n z) v := by
 cases z with
 | d x => exact r
 | e x => exact r
 | r j =>
   obtain ⟨a, e, k⟩ := r
   refine ⟨a, ?_, k⟩
   by_cases hj : j < fp.length
   · rw [if_pos hj]
     have hl : j < (selR fp ρ).length := by unfold selR; simpa using hj
     have e1 : (selR fp ρ)[j]? = some a := by
       obtain ⟨t, rfl⟩ := hp
       rw [List.getElem?_append_left hl] at e
       exact e
     obtain ⟨i, h1, h2⟩ := selR_inv (fun i hi => by rw [hn]; exact hlt i hi) e1
     have e2 : fp.getD j 0 = i := by simp [List.getD_eq_getElem?_getD, h1]
     rw [e2, List.getElem?_append_left (by rw [hn]; exact hlt i (List.mem_of_getElem? h1))]
     exact h2
   · rw [if_neg hj, List.getElem?_append_right (by rw [hn]; omega), List.getElem?_drop]
     rw [← e]
     congr 1
     rw [hn]
     omega
theorem un_zs {U : Addr → Prop} {ρc' : List Addr} {n : Nat} (hn : ρ.length = n) (hlt : ∀ i ∈ fp, i < n) (hp : selR fp ρ <+: ρc') : ∀ {zs : List Z} {vs : List V}, RZs g U H ρc' zs vs → RZs g U H (ρ ++ ρc'.drop fp.length) (zs.map (unZ fp n)) vs
 | [], vs, r => r
 | z :: zs, vs, ⟨v, vs', e, r, q⟩ => ⟨v, vs', e, un_z hn hlt hp r, un_zs hn hlt hp q⟩
theorem un_o {U : Addr → Prop} {ρc' : List Addr} {n : Nat} (hn : ρ.length = n) (hlt : ∀ i ∈ fp, i < n) (hp : selR fp ρ <+: ρc') {a : Addr} {o : ZO} (r : RO g U H ρc' a o) : RO g U H (ρ ++ ρc'.drop fp.length) a (unO fp n o) := by
 cases o with
 | gone => exact r
 | dl xs => exact r
 | dic ks vs => exact r
 | dit ks vs => exact r
 | zl zs =>
   obtain ⟨vs, q, r⟩ := r
   exact ⟨vs, q, un_zs hn hlt hp r⟩
 | ins c fs =>
   obtain ⟨hc, hf, dx, fvs, q, k, r⟩ := r
   refine ⟨hc, fun p hp => ?_, dx, fvs, q, ?_, ?_⟩
   · obtain ⟨p0, h0, e0⟩ := List.mem_map.mp hp
     rw [← e0]
     exact hf p0 h0
   · rw [k, List.map_map, List.map_map, List.map_map]; rfl
   · have e : (fs.map fun p => (p.1, unZ fp n p.2)).map (·.2) = (fs.map (·.2)).map (unZ fp n) := by rw [List.map_map, List.map_map]; rfl
     rw [e]
     exact un_zs hn hlt hp r
def frC (F : Fr) (ρ : List Addr) (zh : ZH) (H : Hp) (fp : List Nat) : Fr :=
 ⟨fun a => F.P a ∨ ∃ (i : Nat) (o : ZO), i ∉ fp ∧ ρ[i]? = some a ∧ zh[i]? = some o ∧ o.live = true, UO F ρ zh, H⟩
def selH (fp : List Nat) (zh : ZH) : ZH := fp.map fun i => renO fp (zh.getD i .gone)
theorem selH_get {k i : Nat} (h : fp[k]? = some i) : (selH fp zh)[k]? = some (renO fp (zh.getD i .gone)) := by
 unfold selH
 rw [List.getElem?_map, h]; rfl
theorem uoC (len : ρ.length = zh.length) (hlt : ∀ i ∈ fp, i < zh.length) : UO (frC F ρ zh H fp) (selR fp ρ) (selH fp zh) = UO F ρ zh := by
 funext a
 refine propext ⟨?_, ?_⟩
 · rintro ((h | ⟨i, o, _, h1, h2, h3⟩) | ⟨k, o, h1, h2, h3⟩)
   · exact .inl h
   · exact .inr ⟨i, o, h1, h2, h3⟩
   · obtain ⟨i, e1, e2⟩ := selR_inv (fun i hi => by rw [len]; exact hlt i hi) h1
     rw [selH_get e1] at h2
     cases h2
     rw [renO_live] at h3
     have hi := hlt i (List.mem_of_getElem? e1)
     have e3 : zh.getD i .gone = zh[i] := by simp [List.getD_eq_getElem?_getD, List.getElem?_eq_getElem hi]
     rw [e3] at h3
     exact .inr ⟨i, _, e2, List.getElem?_eq_getElem hi, h3⟩
 · rintro (h | ⟨i, o, h1, h2, h3⟩)
   · exact .inl (.inl h)
   · by_cases hi : i ∈ fp
     · refine .inr ⟨fp.idxOf i, _, selR_get (idx_get hi) h1, selH_get (idx_get hi), ?_⟩
       rw [renO_live]
       simp [List.getD_eq_getElem?_getD, h2, h3]
     · exact .inl (.inr ⟨i, o, hi, h1, h2, h3⟩)
theorem relC (r : RelH g F ρ zh H) (nd : fp.Nodup) (hlt : ∀ i ∈ fp, i < zh.length) (hcl : ∀ i ∈ fp, ∀ j ∈ refsO (zh.getD i .gone), j ∈ fp) :
   RelH g (frC F ρ zh H fp) (selR fp ρ) (selH fp zh) H := by
 have hU := uoC (F := F) (H := H) r.len hlt
 have hltR : ∀ i ∈ fp, i < ρ.length := fun i hi => by rw [r.len]; exact hlt i hi
 refine ⟨by unfold selR selH; simp, ?_, fun k a o h1 h2 => ?_, fun a h => ?_, fun a h q => ?_, fun a h => ?_, ?_⟩
 · refine List.pairwise_iff_getElem.mpr fun i j hi hj hij e => ?_
   have ha : (selR fp ρ)[j]? = some (selR fp ρ)[j] := List.getElem?_eq_getElem hj
   have hb : (selR fp ρ)[i]? = some (selR fp ρ)[j] := by rw [List.getElem?_eq_getElem hi, e]
   obtain ⟨i1, e1, e2⟩ := selR_inv hltR hb
   obtain ⟨i2, e3, e4⟩ := selR_inv hltR ha
   have : i1 = i2 := by
     obtain ⟨l1, x1⟩ := List.getElem?_eq_some_iff.mp e2
     obtain ⟨l2, x2⟩ := List.getElem?_eq_some_iff.mp e4
     exact (List.getElem_inj r.nd).mp (x1.trans x2.symm)
   subst this
   obtain ⟨l1, x1⟩ := List.getElem?_eq_some_iff.mp e1
   obtain ⟨l2, x2⟩ := List.getElem?_eq_some_iff.mp e3
   have := (List.getElem_inj nd).mp (x1.trans x2.symm)
   omega
 · obtain ⟨i, e1, e2⟩ := selR_inv hltR h1
   rw [selH_get e1] at h2
   cases h2
   have hm := List.mem_of_getElem? e1
   have hi := hlt i hm
   have e3 : zh[i]? = some (zh.getD i .gone) := by simp [List.getD_eq_getElem?_getD, List.getElem?_eq_getElem hi]
   rw [hU]
   exact ren_o (r.own i a _ e2 e3) (hcl i hm)
 · rcases h with h | ⟨i, o, _, h1, _, _⟩
   · obtain ⟨e, u, k⟩ := r.prot a h
     exact ⟨rfl, u, e.trans k⟩
   · exact ⟨rfl, r.trk a (List.mem_of_getElem? h1)⟩
 · obtain ⟨k, hk⟩ := List.getElem?_of_mem h
   obtain ⟨i, e1, e2⟩ := selR_inv hltR hk
   rcases q with q | ⟨j, o, hj, h1, _, _⟩
   · exact r.notp a (List.mem_of_getElem? e2) q
   · have : i = j := by
       obtain ⟨l1, x1⟩ := List.getElem?_eq_some_iff.mp e2
       obtain ⟨l2, x2⟩ := List.getElem?_eq_some_iff.mp h1
       exact (List.getElem_inj r.nd).mp (x1.trans x2.symm)
     subst this
     exact hj (List.mem_of_getElem? e1)
 · obtain ⟨k, hk⟩ := List.getElem?_of_mem h
   obtain ⟨i, e1, e2⟩ := selR_inv hltR hk
   exact r.trk a (List.mem_of_getElem? e2)
 · rw [hU]
   exact Stb.refl
theorem uoB {ρc' : List Addr} {zhc' : ZH} (r : RelH g F ρ zh H) (nd : fp.Nodup) (hlt : ∀ i ∈ fp, i < zh.length) (hp : selR fp ρ <+: ρc') (hl : ρc'.length = zhc'.length) :
   UO F (ρ ++ ρc'.drop fp.length) (putBack fp zh zhc') = UO (frC F ρ zh H fp) ρc' zhc' := by
 have hltR : ∀ i ∈ fp, i < ρ.length := fun i hi => by rw [r.len]; exact hlt i hi
 have hm : fp.length ≤ ρc'.length := by
   have := hp.length_le
   unfold selR at this
   simpa using this
 have len := r.len
 funext a
 refine propext ⟨?_, ?_⟩
 · rintro (h | ⟨i, o, h1, h2, h3⟩)
   · exact .inl (.inl h)
   · by_cases hi : i < ρ.length
     · rw [List.getElem?_append_left hi] at h1
       unfold putBack at h2
       rw [List.getElem?_append_left (by rw [putFp_length]; omega)] at h2
       by_cases hf : i ∈ fp
       · have hk := idx_get hf
         have hk' : fp.idxOf i < zhc'.length := by
           have := List.idxOf_lt_length_of_mem hf
           omega
         have e1 : (zhc'.map (unO fp zh.length))[fp.idxOf i]? = some (unO fp zh.length zhc'[fp.idxOf i]) := by
           rw [List.getElem?_map, List.getElem?_eq_getElem hk']; rfl
         rw [putFp_in fp _ zh _ i _ nd hk e1 (hlt i hf)] at h2
         cases h2
         rw [unO_live] at h3
         refine .inr ⟨fp.idxOf i, _, pre_get hp (selR_get hk h1), List.getElem?_eq_getElem hk', h3⟩
       · rw [putFp_out _ _ _ _ hf] at h2
         exact .inl (.inr ⟨i, o, hf, h1, h2, h3⟩)
     · rw [List.getElem?_append_right (by omega), List.getElem?_drop] at h1
       unfold putBack at h2
       rw [List.getElem?_append_right (by rw [putFp_length]; omega), putFp_length, List.getElem?_map, List.getElem?_drop] at h2
       rw [← len] at h2
       cases e : zhc'[fp.length + (i - ρ.length)]? with
       | none => rw [e] at h2; cases h2
       | some o' =>
         rw [e] at h2
         cases h2
         rw [unO_live] at h3
         exact .inr ⟨_, o', h1, e, h3⟩
 · rintro ((h | ⟨i, o, hf, h1, h2, h3⟩) | ⟨k, o, h1, h2, h3⟩)
   · exact .inl h
   · have hi : i < ρ.length := (List.getElem?_eq_some_iff.mp h1).1
     refine .inr ⟨i, o, by rw [List.getElem?_append_left hi]; exact h1, ?_, h3⟩
     unfold putBack
     rw [List.getElem?_append_left (by rw [putFp_length]; omega), putFp_out _ _ _ _ hf]
     exact h2
   · by_cases hk : k < fp.length
     · have hl2 : k < (selR fp ρ).length := by unfold selR; simpa using hk
       have e1 : (selR fp ρ)[k]? = some a := by
         obtain ⟨t, rfl⟩ := hp
         rw [List.getElem?_append_left hl2] at h1
         exact h1
       obtain ⟨i, e2, e3⟩ := selR_inv hltR e1
       have hi := hltR i (List.mem_of_getElem? e2)
       refine .inr ⟨i, unO fp zh.length o, by rw [List.getElem?_append_left hi]; exact e3, ?_, by rw [unO_live]; exact h3⟩
       unfold putBack
       rw [List.getElem?_append_left (by rw [putFp_length]; omega)]
       exact putFp_in fp _ zh k i _ nd e2 (by rw [List.getElem?_map, h2]; rfl) (by omega)
     · refine .inr ⟨ρ.length + (k - fp.length), unO fp zh.length o, ?_, ?_, by rw [unO_live]; exact h3⟩
       · rw [List.getElem?_append_right (by omega), List.getElem?_drop]
         rw [← h1]
         congr 1
         omega
       · unfold putBack
         rw [List.getElem?_append_right (by rw [putFp_length]; omega), putFp_length, List.getElem?_map, List.getElem?_drop]
         have : fp.length + (ρ.length + (k - fp.length) - zh.length) = k := by omega
         rw [this, h2]; rfl
theorem backH {ρc' : List Addr} {zhc' : ZH} {H' : Hp} (r : RelH g F ρ zh H) (nd : fp.Nodup) (hlt : ∀ i ∈ fp, i < zh.length)
   (e : Ext (frC F ρ zh H fp) (selR fp ρ) (selH fp zh) H ρc' zhc' H') (rc : RelH g (frC F ρ zh H fp) ρc' zhc' H') :
   RelH g F (ρ ++ ρc'.drop fp.length) (putBack fp zh zhc') H' ∧ Ext F ρ zh H (ρ ++ ρc'.drop fp.length) (putBack fp zh zhc') H' := by
 have len := r.len
 have hltR : ∀ i ∈ fp, i < ρ.length := fun i hi => by rw [r.len]; exact hlt i hi
 have hm : fp.length ≤ ρc'.length := by
   have := e.pre.length_le
   unfold selR at this
   simpa using this
 have hU := uoB r nd hlt e.pre rc.len
 have hU0 := uoC (F := F) (H := H) r.len hlt
 have s : Stb (UO F ρ zh) H (UO F (ρ ++ ρc'.drop fp.length) (putBack fp zh zhc')) H' := by
   rw [hU, ← hU0]
   exact e.stb
 have sel_in : ∀ a, a ∈ selR fp ρ → ∃ k, k < fp.length ∧ ρc'[k]? = some a := fun a h => by
   obtain ⟨k, hk⟩ := List.getElem?_of_mem h
   refine ⟨k, ?_, pre_get e.pre hk⟩
   have := (List.getElem?_eq_some_iff.mp hk).1
   unfold selR at this
   simpa using this
 have drop_new : ∀ a, a ∈ ρc'.drop fp.length → H a = none := fun a h => by
   obtain ⟨k, hk⟩ := List.getElem?_of_mem h
   rw [List.getElem?_drop] at hk
   rcases e.fresh a (List.mem_of_getElem? hk) with q | q
   · obtain ⟨k2, h2, h3⟩ := sel_in a q
     obtain ⟨l1, x1⟩ := List.getElem?_eq_some_iff.mp hk
     obtain ⟨l2, x2⟩ := List.getElem?_eq_some_iff.mp h3
     have := (List.getElem_inj rc.nd).mp (x1.trans x2.symm)
     omega
   · exact q
 refine ⟨⟨?_, ?_, fun i a o h1 h2 => ?_, fun a h => ?_, fun a h q => ?_, fun a h => ?_, r.stb.trans s⟩, ⟨List.prefix_append _ _, s, e.trk, fun a h => ?_⟩⟩
 · unfold putBack
   rw [List.length_append, List.length_append, putFp_length, List.length_map, List.length_drop, List.length_drop, len, rc.len]
 · rw [List.nodup_append]
   refine ⟨r.nd, rc.nd.sublist (List.drop_sublist _ _), fun a ha b hb eq => ?_⟩
   subst eq
   obtain ⟨o, k⟩ := r.trk a ha
   rw [drop_new a hb] at k; cases k
 · rw [hU]
   by_cases hi : i < ρ.length
   · rw [List.getElem?_append_left hi] at h1
     unfold putBack at h2
     rw [List.getElem?_append_left (by rw [putFp_length]; omega)] at h2
     by_cases hf : i ∈ fp
     · have hk := idx_get hf
       have hk' : fp.idxOf i < zhc'.length := by
         have := List.idxOf_lt_length_of_mem hf
         have := rc.len
         omega
       have e1 : (zhc'.map (unO fp zh.length))[fp.idxOf i]? = some (unO fp zh.length zhc'[fp.idxOf i]) := by
         rw [List.getElem?_map, List.getElem?_eq_getElem hk']; rfl
       rw [putFp_in fp _ zh _ i _ nd hk e1 (hlt i hf)] at h2
       cases h2
       exact un_o len hlt e.pre (rc.own (fp.idxOf i) a _ (pre_get e.pre (selR_get hk h1)) (List.getElem?_eq_getElem hk'))
     · rw [putFp_out _ _ _ _ hf] at h2
       cases hlv : o.live with
       | false =>
         cases o with
         | gone => trivial
         | _ => cases hlv
       | true =>
         have hp := rc.prot a (.inr ⟨i, o, hf, h1, h2, hlv⟩)
         have := r.own i a o h1 h2
         rw [← hU]
         exact RO.mono s (List.prefix_append _ _) hp.1 this
   · rw [List.getElem?_append_right (by omega), List.getElem?_drop] at h1
     unfold putBack at h2
     rw [List.getElem?_append_right (by rw [putFp_length]; omega), putFp_length, List.getElem?_map, List.getElem?_drop] at h2
     rw [← len] at h2
     cases ee : zhc'[fp.length + (i - ρ.length)]? with
     | none => rw [ee] at h2; cases h2
     | some o' =>
       rw [ee] at h2
       cases h2
       rw [len] at h1 ee ⊢
       exact un_o len hlt e.pre (rc.own _ a o' h1 ee)
 · obtain ⟨q, u, k⟩ := r.prot a h
   have hp := rc.prot a (.inl h)
   exact ⟨hp.1.trans q, u, k⟩
 · rcases List.mem_append.mp h with h | h
   · exact r.notp a h q
   · exact rc.notp a (List.mem_of_mem_drop h) (.inl q)
 · rcases List.mem_append.mp h with h | h
   · obtain ⟨o, k⟩ := r.trk a h
     exact e.trk a o k
   · exact rc.trk a (List.mem_of_mem_drop h)
 · rcases List.mem_append.mp h with h | h
   · exact .inl h
   · exact .inr (drop_new a h)
theorem call_post {M : Sem} {zs : List Z} {vs : List V} {Q : VK} (r : RelH g F ρ zh H) (rz : RZs g (UO F ρ zh) H ρ zs vs) (p : Post g F W ρ zσ zh σ H (callZ M zs zh) Q) :
   lowF g M vs H Q (fun c d H' => W c d σ H') := by
 unfold callZ at p
 dsimp only at p
 split at p
 · rename_i hc
   unfold closedB at hc
   simp only [Bool.and_eq_true, List.all_eq_true, List.contains_iff_mem, decide_eq_true_eq] at hc
   obtain ⟨⟨h1, h2⟩, h3⟩ := hc
   have nd := nodupB_ok h3
   have hlt : ∀ i ∈ reach zh 40 (zs.flatMap refsZ) [], i < zh.length := fun i hi => (h2 i hi).1
   have rc := relC r nd hlt fun i hi => (h2 i hi).2
   have hU0 := uoC (F := F) (H := H) r.len hlt
   refine ⟨frC F ρ zh H _, selR _ ρ, zs.map (renZ (reach zh 40 (zs.flatMap refsZ) [])), selH _ zh, rc, ?_, ?_⟩
   · rw [hU0]
     exact ren_zs rz h1
   · cases hM : M (zs.map (renZ (reach zh 40 (zs.flatMap refsZ) []))) (selH (reach zh 40 (zs.flatMap refsZ) []) zh) with
     | bad => unfold selH at hM; rw [hM] at p; exact p.elim
     | ok z h' =>
       unfold selH at hM; rw [hM] at p
       intro ρc' v H' e R q
       obtain ⟨R', e'⟩ := backH r nd hlt e R
       refine p _ v H' e' R' ?_
       rw [uoB r nd hlt e.pre R.len]
       exact un_z r.len hlt e.pre q
     | exc x h' =>
       unfold selH at hM; rw [hM] at p
       intro ρc' cls dx H' e R q
       obtain ⟨R', e'⟩ := backH r nd hlt e R
       refine p _ cls dx H' e' R' ?_
       rw [uoB r nd hlt e.pre R.len]
       exact q
 · exact p.elim
end
structure FnT (P : Program) (w : World) (K : PySem.W.Frag) (mg : Str → Option Value) (base : Heap) (g : G) (k : Nat) (f : Addr) (fd : FuncData) (ps : List Str) (M : Sem) : Prop where
 ok : FnOk P w K mg base (L2.CX P w) k f fd ps (lowF g M)
 kp : PySem.W.keepIn K (.ref f) = true
 bi : Binds K fd ps []
section
variable {g : G} {F : Fr} {X : Cx} {W : WX} {k : Nat} {f : Addr} {fd : FuncData} {ps : List Str} {M : Sem} {e o : Expr} {es : List Expr} {d : DA} {da : DE} {x : Str} {p pos : Pos}
def dCallF (M : Sem) (d : DA) : DE := fun s h => (d s h).bnd fun zs h1 => callZ M zs h1
theorem passesAt (tk : Takes X W) (σ : L2.St) : PassesAt (L2.CX X.prog X.w) X σ (fun c d H => W c d σ H) := fun pins H s e s' I c => tk e s' (XE.of_call I (fun cls d H' h => h) c)
theorem z_call (T : FnT X.prog X.w X.K X.mg X.base g k f fd ps M) (hr : Room k X.A) (tk : Takes X W) (hg : Gl X x) (hm : X.mg x = some (.ref f)) (ha : ZA g F X W (e :: es) d)
   (hdb : (x == ("__debug__" : Str)) = false := by decide) (he : starEach (e :: es) X.env = (false, eval e X.env) :: starEach es X.env := by rfl) (hpl : (backTo pos (starEach es X.env)).any (·.1) = false := by rfl) :
   ZE g F X W (.Call (.Name x p) (e :: es) [] pos) (dCallF M d) := by
 refine PE.imp (pe_callSD (E := fun σ c d H => W c d σ H) T.ok hr hg hm T.kp T.bi .nil (passesAt tk) ha hdb he hpl) fun σ H Q ⟨ρ, zσ, zh, RH, RS, p⟩ => ?_
 refine ⟨ρ, zσ, zh, RH, RS, PostA.bndE p fun ρ1 zs zh1 vs H1 e1 R1 rz p1 => ?_⟩
 rw [List.append_nil]
 exact call_post R1 rz p1
def runF (n m : Nat) (d : DS) : Sem := fun zs h => if zs.length = n then
   match d (zs.map some ++ List.replicate (m - n) none) h with
   | .rt z h' => .ok z h'
   | .nx _ h' => .ok (.d .non) h'
   | .exc x _ h' => .exc x h'
   | _ => .bad
 else .bad
theorem fun_ok {P : Program} {w : World} {K : PySem.W.Frag} {mg : Str → Option Value} {base : Heap} {x qual : Str} {st : Stmt} {N : List Str} {ds : DS} {dvs : List V} {kws : List (Str × V)} (T : FunD K x qual (defArgs st) (defBody st) (defScope st) dvs kws f fd) (S : FnScope N ps (defScope st))
   (hbody : ∀ (F : Fr) (cdv : Value) (A : Around) (outer : List Env) (s : Shared) (H : Hp) (E : XK), Room k (A.deeper (envOfC qual (defScope st) s.heap.objs.size f cdv)) →
     ZSs g F (cxOf (L2.CX P w) P w K mg base N qual (defScope st) f cdv A outer s H E) (fun c d _ H => E c d H) (defBody st) ds) :
   FnOk P w K mg base (L2.CX P w) (k + 1) f fd ps (lowF g (runF ps.length N.length ds)) := by
 refine T.ok S (fun vs H Q E ⟨F, ρ, zs, zh, _, rz, p⟩ => ?_) fun cdv A outer s H vs Q E hr ⟨F, ρ, zs, zh, RH, rz, p⟩ => ?_
 · unfold runF at p
   split at p
   · rename_i h
     rw [rz.length, h]
   · exact p.elim
 · refine ⟨_, hbody F cdv A outer s H E hr, ?_⟩
   unfold runF at p
   split at p
   · rename_i hl
     have hvl : vs.length = ps.length := by rw [rz.length, hl]
     have hN : ps.length ≤ N.length := by
       have := congrArg List.length S.pre
       rw [List.length_take] at this
       omega
     refine ⟨ρ, zs.map some ++ List.replicate (N.length - ps.length) none, zh, RH, ⟨?_, fun i z h => ?_⟩, ?_⟩
     · unfold L2.start
       simp only [List.length_append, List.length_map, List.length_replicate]
       omega
     · by_cases hi : i < zs.length
       · rw [List.getElem?_append_left (by simpa using hi), List.getElem?_map] at h
         cases e : zs[i]? with
         | none => rw [e] at h; cases h
         | some z' =>
           rw [e] at h
           cases h
           obtain ⟨v, h1, h2⟩ := RZs.get rz e
           refine ⟨v, ?_, h2⟩
           unfold L2.start
           rw [List.getElem?_append_left (by rw [List.length_map]; omega), List.getElem?_map, h1]; rfl
       · rw [List.getElem?_append_right (by simpa using hi), List.getElem?_replicate] at h
         split at h <;> cases h
     · cases hd : ds (zs.map some ++ List.replicate (N.length - ps.length) none) zh with
       | nx s' h' =>
         rw [hd] at p
         exact fun ρ' σ' H' e R S' => p ρ' .non H' e R (rz_non.mpr rfl)
       | rt z h' =>
         rw [hd] at p
         exact p
       | exc x' s' h' =>
         rw [hd] at p
         exact fun ρ' σ' cls dx H' e R S' q => p ρ' cls dx H' e R q
       | bk s' h' => rw [hd] at p; exact p.elim
       | ct s' h' => rw [hd] at p; exact p.elim
       | bad => rw [hd] at p; exact p.elim
   · exact p.elim
theorem takesF {P : Program} {w : World} {K : PySem.W.Frag} {mg : Str → Option Value} {base : Heap} {N : List Str} {qual : Str} {sc : Scope} {cdv : Value} {A : Around} {outer : List Env} {s : Shared} {H : Hp} {E : XK} :
 Takes (cxOf (L2.CX P w) P w K mg base N qual sc f cdv A outer s H E) (fun c d _ H => E c d H) := takes_of rfl rfl rfl rfl
end
end Zl
end
section
namespace Zl
open PySem PySem.Spec PyProof.Rows L2
structure ClsOk (g : G) : Prop where
 cls : ∀ c, g.has c = true → Cls g.K (g.cad c)
 noat : ∀ c f, g.has c = true → f ∈ clsFlds c → NoAttr g.K (g.cad c) (fnm f)
section
variable {g : G} {F : Fr} {X : Cx} {W : WX} {a b c e o value : Expr} {es : List Expr} {da db dc : DE} {pos pos' apos : Pos}
theorem look_d {U : Addr → Prop} {H : Hp} {f : Nat} : ∀ {ks : List Nat} {ds : List D} {fvs : List (Str × V)} {x : D}, fvs.map (·.1) = ks.map fnm → RDs g U H ds (fvs.map (·.2)) → (ks.zip ds).lookup f = some x →
   f ∈ ks ∧ ∃ v, fvs.lookup (fnm f) = some v ∧ RD g U H x v
 | [], ds, fvs, x, _, _, h => by simp at h
 | k :: ks, [], fvs, x, _, _, h => by simp at h
 | k :: ks, d :: ds, [], x, e, r, h => by simp at e
 | k :: ks, d :: ds, (n, v) :: fvs, x, e, r, h => by
   simp only [List.map_cons, List.cons.injEq] at e
   obtain ⟨v', vs', e2, r1, r2⟩ := rds_cons.mp r
   simp only [List.map_cons, List.cons.injEq] at e2
   obtain ⟨ev, evs⟩ := e2
   subst ev; subst evs
   rw [List.zip_cons_cons, List.lookup_cons] at h
   by_cases hf : f = k
   · subst hf
     simp only [beq_self_eq_true] at h
     cases h
     exact ⟨List.mem_cons_self, v, by rw [List.lookup_cons, e.1]; simp, r1⟩
   · have hb : (f == k) = false := by simpa using hf
     rw [hb] at h
     obtain ⟨hm, u, h1, h2⟩ := look_d e.2 r2 h
     refine ⟨List.mem_cons_of_mem _ hm, u, ?_, h2⟩
     rw [List.lookup_cons, e.1]
     have : (fnm f == fnm k) = false := by
       rw [beq_eq_false_iff_ne]
       exact fun q => hf (fnm_inj q)
     rw [this]
     exact h1
theorem look_z {U : Addr → Prop} {H : Hp} {ρ : List Addr} {f : Nat} : ∀ {fs : List (Nat × Z)} {fvs : List (Str × V)} {x : Z}, fvs.map (·.1) = (fs.map (·.1)).map fnm → RZs g U H ρ (fs.map (·.2)) (fvs.map (·.2)) → fs.lookup f = some x →
   ∃ v, fvs.lookup (fnm f) = some v ∧ RZ g U H ρ x v
 | [], fvs, x, _, _, h => by simp at h
 | (k, d) :: fs, [], x, e, r, h => by simp at e
 | (k, d) :: fs, (n, v) :: fvs, x, e, ⟨v', vs', e2, r1, r2⟩, h => by
   simp only [List.map_cons, List.cons.injEq] at e
   simp only [List.map_cons, List.cons.injEq] at e2
   obtain ⟨ev, evs⟩ := e2
   subst ev; subst evs
   rw [List.lookup_cons] at h
   by_cases hf : f = k
   · subst hf
     simp only [beq_self_eq_true] at h
     cases h
     exact ⟨v, by rw [List.lookup_cons, e.1]; simp, r1⟩
   · have hb : (f == k) = false := by simpa using hf
     rw [hb] at h
     obtain ⟨u, h1, h2⟩ := look_z e.2 r2 h
     refine ⟨u, ?_, h2⟩
     rw [List.lookup_cons, e.1]
     have : (fnm f == fnm k) = false := by
       rw [beq_eq_false_iff_ne]
       exact fun q => hf (fnm_inj q)
     rw [this]
     exact h1
def fldZ (f : Nat) (z : Z) (h : ZH) : Option Z :=
 match z with
 | .d (.obj c ds) => (((clsFlds c).zip ds).lookup f).map .d
 | .r i => match h[i]? with
   | some (.ins _ fs) => fs.lookup f
   | _ => none
 | _ => none
theorem mem_lookup {f : Nat} {x : Z} : ∀ {fs : List (Nat × Z)}, fs.lookup f = some x → (f, x) ∈ fs
 | [], h => by simp at h
 | (k, d) :: fs, h => by
   rw [List.lookup_cons] at h
   by_cases hf : f = k
   · subst hf
     simp only [beq_self_eq_true] at h
     cases h
     exact List.mem_cons_self
   · have hb : (f == k) = false := by simpa using hf
     rw [hb] at h
     exact List.mem_cons_of_mem _ (mem_lookup h)
theorem fldZ_ok {ρ : List Addr} {zh : ZH} {H : Hp} (r : RelH g F ρ zh H) {z : Z} {v : V} (rz : RZ g (UO F ρ zh) H ρ z v) {f : Nat} {x : Z} (h : fldZ f z zh = some x) :
   ∃ a c dx fvs u, v = .ref a ∧ H a = some (.ins (g.cad c) dx fvs) ∧ g.has c = true ∧ f ∈ clsFlds c ∧ fvs.lookup (fnm f) = some u ∧ RZ g (UO F ρ zh) H ρ x u := by
 unfold fldZ at h
 split at h
 · rename_i c ds
   obtain ⟨a, dx, fvs, e, _, hc, q, k, rr⟩ := rd_obj.mp rz
   cases hl : ((clsFlds c).zip ds).lookup f with
   | none => rw [hl] at h; cases h
   | some d =>
     rw [hl] at h
     cases h
     obtain ⟨hm, u, h1, h2⟩ := look_d k rr hl
     exact ⟨a, c, dx, fvs, u, e, q, hc, hm, h1, h2⟩
 · rename_i i
   obtain ⟨a, e, k⟩ := rz
   cases hz : zh[i]? with
   | none => rw [hz] at h; cases h
   | some oo =>
     rw [hz] at h
     cases oo with
     | ins c fs =>
       obtain ⟨hc, hf, dx, fvs, q, k2, rr⟩ := r.own i a _ e hz
       obtain ⟨u, h1, h2⟩ := look_z k2 rr h
       exact ⟨a, c, dx, fvs, u, k, q, hc, hf _ (mem_lookup h), h1, h2⟩
     | _ => cases h
 · cases h
def dFld (f : Nat) (d : DE) : DE := fun s h => (d s h).bnd fun z h1 => match fldZ f z h1 with
 | some x => .ok x h1
 | none => .bad
theorem z_fld (f : Nat) {n : Str} (gk : ClsOk g) (hK : X.K = g.K) (he : ZE g F X W e da) (hn : n = fnm f := by decide +kernel) (hb : attributeBase e n X.env (eval e X.env) = eval e X.env := by rfl) : ZE g F X W (.Attribute e n pos) (dFld f da) := by
 subst hn
 refine PE.imp (pe_fld he hb) fun σ H Q ⟨ρ, zσ, zh, RH, RS, p⟩ => ?_
 refine ⟨ρ, zσ, zh, RH, RS, Post.bnd p fun ρ1 z zh1 v H1 e1 R1 rz p1 => ?_⟩
 cases k : fldZ f z zh1 with
 | none => simp only [k] at p1; exact p1.elim
 | some x =>
   simp only [k] at p1
   obtain ⟨a, c, dx, fvs, u, ev, q, hc, hm, hl, hr⟩ := fldZ_ok R1 rz k
   rw [hK]
   exact ⟨a, g.cad c, dx, fvs, u, ev, q, gk.cls c hc, gk.noat c f hc hm, hl, Post.done R1 p1 hr⟩
def putN (f : Nat) (z : Z) : List (Nat × Z) → List (Nat × Z)
 | [] => [(f, z)]
 | p :: fs => if p.1 = f then (f, z) :: fs else p :: putN f z fs
theorem putN_keys {f : Nat} {z : Z} {y : V} : ∀ {fs : List (Nat × Z)} {fvs : List (Str × V)}, fvs.map (·.1) = (fs.map (·.1)).map fnm → (putF (fnm f) y fvs).map (·.1) = ((putN f z fs).map (·.1)).map fnm
 | [], fvs, h => by
   have : fvs = [] := by simpa using h
   subst this; rfl
 | p :: fs, [], h => by simp at h
 | p :: fs, q :: fvs, h => by
   simp only [List.map_cons, List.cons.injEq] at h
   unfold putF putN
   by_cases e : p.1 = f
   · rw [if_pos e, if_pos (by rw [h.1, e])]
     rw [List.map_cons, List.map_cons, List.map_cons, h.2, h.1, e]
   · rw [if_neg e, if_neg (by rw [h.1]; exact fun k => e (fnm_inj k))]
     rw [List.map_cons, List.map_cons, List.map_cons, h.1, putN_keys h.2]
theorem putN_rel {U : Addr → Prop} {H : Hp} {ρ : List Addr} {f : Nat} {z : Z} {y : V} (ry : RZ g U H ρ z y) : ∀ {fs : List (Nat × Z)} {fvs : List (Str × V)}, fvs.map (·.1) = (fs.map (·.1)).map fnm → RZs g U H ρ (fs.map (·.2)) (fvs.map (·.2)) →
   RZs g U H ρ ((putN f z fs).map (·.2)) ((putF (fnm f) y fvs).map (·.2))
 | [], fvs, h, _ => by
   have : fvs = [] := by simpa using h
   subst this
   exact ⟨y, [], rfl, ry, rfl⟩
 | p :: fs, [], h, _ => by simp at h
 | p :: fs, q :: fvs, h, ⟨v, vs, e2, r1, r2⟩ => by
   simp only [List.map_cons, List.cons.injEq] at h e2
   obtain ⟨ev, evs⟩ := e2
   unfold putF putN
   by_cases e : p.1 = f
   · rw [if_pos e, if_pos (by rw [h.1, e])]
     exact ⟨y, _, rfl, ry, by rw [evs]; exact r2⟩
   · rw [if_neg e, if_neg (by rw [h.1]; exact fun k => e (fnm_inj k))]
     exact ⟨q.2, _, rfl, by rw [ev]; exact r1, putN_rel ry h.2 (by rw [evs]; exact r2)⟩
theorem putN_mem {f : Nat} {z : Z} : ∀ {fs : List (Nat × Z)} {p : Nat × Z}, p ∈ putN f z fs → p.1 = f ∨ p ∈ fs
 | [], p, h => by
   have : p = (f, z) := by simpa [putN] using h
   exact .inl (by rw [this])
 | q :: fs, p, h => by
   unfold putN at h
   split at h
   · rcases List.mem_cons.mp h with h | h
     · exact .inl (by rw [h])
     · exact .inr (List.mem_cons_of_mem _ h)
   · rcases List.mem_cons.mp h with h | h
     · exact .inr (by rw [h]; exact List.mem_cons_self)
     · rcases putN_mem h with h | h
       · exact .inl h
       · exact .inr (List.mem_cons_of_mem _ h)
def setFld (f : Nat) (y x : Z) (s : ZS) (h : ZH) : OutS := match x with
 | .r i => match h[i]? with
   | some (.ins c fs) => if (clsFlds c).contains f && decide (fs.length < 1000) then .nx s (h.set i (.ins c (putN f y fs))) else .bad
   | _ => .bad
 | _ => .bad
def dSetFld (f : Nat) (dv d : DE) : DS := fun s h => (dv s h).bndS s fun y h1 => (d s h1).bndS s fun x h2 => setFld f y x s h2
theorem setFld_ok {D : Ends} {ρ : List Addr} {zσ : ZS} {zh : ZH} {σ : L2.St} {H : Hp} (RH : RelH g F ρ zh H) (RS : RelS g (UO F ρ zh) H ρ zσ σ) {f : Nat} {y x : Z} {vy vx : V} (ry : RZ g (UO F ρ zh) H ρ y vy) (rx : RZ g (UO F ρ zh) H ρ x vx) (p : PostS g F W ρ zh H (setFld f y x zσ zh) D) :
   ∃ a c dx fvs, vx = .ref a ∧ H a = some (.ins (g.cad c) dx fvs) ∧ g.has c = true ∧ f ∈ clsFlds c ∧ fvs.length < 1000 ∧ D.nx σ (upd H a (.ins (g.cad c) dx (putF (fnm f) vy fvs))) := by
 unfold setFld at p
 split at p
 · rename_i i
   obtain ⟨a, e, k⟩ := rx
   cases hz : zh[i]? with
   | none => rw [hz] at p; exact p.elim
   | some oo =>
     rw [hz] at p
     cases oo with
     | ins c fs =>
       simp only at p
       split at p
       · rename_i hcond
         simp only [Bool.and_eq_true, List.contains_iff_mem, decide_eq_true_eq] at hcond
         obtain ⟨hc, hf, dx, fvs, q, k2, rr⟩ := RH.own i a _ e hz
         have hlen : fvs.length = fs.length := by
           have := congrArg List.length k2
           simpa using this
         refine ⟨a, c, dx, fvs, k, q, hc, hcond.1, by omega, ?_⟩
         have s : Stb (UO F ρ zh) H (UO F ρ (zh.set i (.ins c (putN f y fs)))) (upd H a (.ins (g.cad c) dx (putF (fnm f) vy fvs))) := fun b u eb nub =>
           ⟨by rw [upd_ne (fun z : b = a => nub (by rw [z]; exact .inr ⟨i, _, e, hz, rfl⟩))]; exact eb, fun z => nub (uo_set z ⟨_, hz, rfl⟩)⟩
         obtain ⟨R', e'⟩ := RH.set (o := .ins (g.cad c) dx (putF (fnm f) vy fvs)) (zo' := .ins c (putN f y fs)) e hz rfl
           ⟨hc, fun pp hp => (putN_mem hp).elim (fun z => by rw [z]; exact hcond.1) (hf pp), dx, _, upd_same, putN_keys k2, putN_rel (RZ.mono s (List.prefix_refl _) ry) k2 (RZs.mono s (List.prefix_refl _) rr)⟩
         exact p ρ σ _ e' R' (RS.mono e')
       · exact p.elim
     | _ => exact p.elim
 · exact p.elim
theorem z_setfld (f : Nat) {n : Str} (gk : ClsOk g) (hK : X.K = g.K) (ho : ZE g F X W o da) (hv : ZE g F X W value db) (hn : n = fnm f := by decide +kernel) (hs : swapsWith value (some (.Attribute o n pos')) pos.line X.env = pure false := by rfl) :
   ZS1 g F X W (.Assign [.Attribute o n pos'] value pos) (dSetFld f db da) := by
 subst hn
 refine PS.imp (ps_fld ho hv hs) fun D σ H ⟨ρ, zσ, zh, RH, RS, p⟩ => ?_
 refine ⟨ρ, zσ, zh, RH, RS, Post.bndS RS p fun ρ1 y zh1 vy H1 e1 R1 ry p1 => ?_⟩
 refine ⟨ρ1, zσ, zh1, R1, RS.mono e1, Post.bndS (RS.mono e1) p1 fun ρ2 x zh2 vx H2 e2 R2 rx p2 => ?_⟩
 obtain ⟨a, c, dx, fvs, ev, q, hc, hm, hl, nx⟩ := setFld_ok R2 ((RS.mono e1).mono e2) (RZ.mono e2.stb e2.pre ry) rx p2
 rw [hK]
 exact ⟨a, g.cad c, dx, fvs, ev, q, gk.cls c hc, gk.noat c f hc hm, hl, nx⟩
theorem RelH.trim {ρ : List Addr} {zh : ZH} {H : Hp} (r : RelH g F ρ zh H) (n : Nat) (hg : ∀ i o, n ≤ i → zh[i]? = some o → o = .gone) (hr : ∀ i o, i < n → zh[i]? = some o → ∀ j ∈ refsO o, j < n) :
   RelH g F (ρ.take n) (zh.take n) H ∧ UO F (ρ.take n) (zh.take n) = UO F ρ zh := by
 have hU : UO F (ρ.take n) (zh.take n) = UO F ρ zh := by
   funext a
   refine propext ⟨?_, ?_⟩
   · rintro (h | ⟨i, o, h1, h2, h3⟩)
     · exact .inl h
     · rw [List.getElem?_take] at h1 h2
       split at h1
       · rename_i hi
         rw [if_pos hi] at h2
         exact .inr ⟨i, o, h1, h2, h3⟩
       · cases h1
   · rintro (h | ⟨i, o, h1, h2, h3⟩)
     · exact .inl h
     · by_cases hi : i < n
       · exact .inr ⟨i, o, by rw [List.getElem?_take, if_pos hi]; exact h1, by rw [List.getElem?_take, if_pos hi]; exact h2, h3⟩
       · rw [hg i o (by omega) h2] at h3; cases h3
 have rz : ∀ {z : Z} {v : V}, (∀ j ∈ refsZ z, j < n) → RZ g (UO F ρ zh) H ρ z v → RZ g (UO F ρ zh) H (ρ.take n) z v := fun {z v} hj h => by
   cases z with
   | d x => exact h
   | e x => exact h
   | r j =>
     obtain ⟨a, e, k⟩ := h
     exact ⟨a, by rw [List.getElem?_take, if_pos (hj j (by simp [refsZ]))]; exact e, k⟩
 have rzs : ∀ {zs : List Z} {vs : List V}, (∀ j ∈ zs.flatMap refsZ, j < n) → RZs g (UO F ρ zh) H ρ zs vs → RZs g (UO F ρ zh) H (ρ.take n) zs vs := fun {zs} => by
   induction zs with
   | nil => intro vs _ h; exact h
   | cons z zs ih =>
     rintro vs hj ⟨v, vs', e, h1, h2⟩
     exact ⟨v, vs', e, rz (fun j k => hj j (by rw [List.flatMap_cons]; exact List.mem_append_left _ k)) h1, ih (fun j k => hj j (by rw [List.flatMap_cons]; exact List.mem_append_right _ k)) h2⟩
 refine ⟨⟨by rw [List.length_take, List.length_take, r.len], r.nd.sublist (List.take_sublist _ _), fun i a o h1 h2 => ?_, r.prot, fun a h => r.notp a (List.mem_of_mem_take h), fun a h => r.trk a (List.mem_of_mem_take h), by rw [hU]; exact r.stb⟩, hU⟩
 rw [List.getElem?_take] at h1 h2
 split at h1
 · rename_i hi
   rw [if_pos hi] at h2
   have q := r.own i a o h1 h2
   have hj := hr i o hi h2
   rw [hU]
   cases o with
   | gone => trivial
   | dl xs => exact q
   | dic ks vs => exact q
   | dit ks vs => exact q
   | zl zs =>
     obtain ⟨vs, e, k⟩ := q
     exact ⟨vs, e, rzs hj k⟩
   | ins c fs =>
     obtain ⟨hc, hf, dx, fvs, e, k1, k2⟩ := q
     refine ⟨hc, hf, dx, fvs, e, k1, rzs (fun j hm => hj j ?_) k2⟩
     unfold refsO
     rw [List.flatMap_map] at hm
     exact hm
 · cases h1
def frzZ (z : Z) (h : ZH) : Option (D × ZH) := match z with
 | .d x => some (x, h)
 | .r j => match h[j]? with
   | some (.dl xs) => some (.lst xs, h.set j .gone)
   | _ => none
 | .e _ => none
def frzZs : List Z → ZH → Option (List D × ZH)
 | [], h => some ([], h)
 | z :: zs, h => match frzZ z h with
   | some (x, h1) => match frzZs zs h1 with
     | some (xs, h2) => some (x :: xs, h2)
     | none => none
   | none => none
def allGone (n : Nat) (h : ZH) : Bool := (h.drop n).all fun o => !o.live
def trimOk (n : Nat) (h : ZH) : Bool := allGone n h && (h.take n).all fun o => (refsO o).all fun j => decide (j < n)
theorem frzZ_ok {ρ : List Addr} {zh zh1 : ZH} {H : Hp} (r : RelH g F ρ zh H) {z : Z} {v : V} (rz : RZ g (UO F ρ zh) H ρ z v) {x : D} (h : frzZ z zh = some (x, zh1)) :
   RelH g F ρ zh1 H ∧ Ext F ρ zh H ρ zh1 H ∧ RD g (UO F ρ zh1) H x v := by
 unfold frzZ at h
 split at h
 · cases h
   exact ⟨r, Ext.refl, rz⟩
 · rename_i j
   obtain ⟨a, e, k⟩ := rz
   cases hz : zh[j]? with
   | none => rw [hz] at h; cases h
   | some oo =>
     rw [hz] at h
     cases oo with
     | dl xs =>
       cases h
       obtain ⟨us, q, rr⟩ := r.own j a _ e hz
       obtain ⟨R1, e1⟩ := r.freeze hz rfl
       exact ⟨R1, e1, rd_lst.mpr ⟨a, us, k, r.gone_notU e, q, RDs.mono e1.stb _ _ rr⟩⟩
     | _ => cases h
 · cases h
theorem frzZs_ok {ρ : List Addr} {H : Hp} : ∀ {zs : List Z} {zh zh1 : ZH} {vs : List V} {xs : List D}, RelH g F ρ zh H → RZs g (UO F ρ zh) H ρ zs vs → frzZs zs zh = some (xs, zh1) →
   RelH g F ρ zh1 H ∧ Ext F ρ zh H ρ zh1 H ∧ RDs g (UO F ρ zh1) H xs vs
 | [], zh, zh1, vs, xs, r, rz, h => by
   unfold frzZs at h
   cases h
   exact ⟨r, Ext.refl, rds_nil.mpr rz⟩
 | z :: zs, zh, zh1, vs, xs, r, ⟨v, vs', ev, r1, r2⟩, h => by
   unfold frzZs at h
   cases k : frzZ z zh with
   | none => rw [k] at h; cases h
   | some p =>
     obtain ⟨x, h1⟩ := p
     rw [k] at h
     simp only at h
     obtain ⟨R1, e1, q1⟩ := frzZ_ok r r1 k
     cases k2 : frzZs zs h1 with
     | none => rw [k2] at h; cases h
     | some p2 =>
       obtain ⟨ys, h2⟩ := p2
       rw [k2] at h
       cases h
       obtain ⟨R2, e2, q2⟩ := frzZs_ok R1 (RZs.mono e1.stb (List.prefix_refl _) r2) k2
       exact ⟨R2, e1.trans e2, rds_cons.mpr ⟨v, vs', ev, RD.mono e2.stb _ _ q1, q2⟩⟩
def madeZ (own : Bool) (c n : Nat) (h : ZH) : Out Z := if own then .ok (.r n) h else
 match h[n]? with
 | some (.ins c' fs) => if (c' == c) && (fs.map (·.1) == clsFlds c) then
     match frzZs (fs.map (·.2)) (h.set n .gone) with
     | some (ds, h1) => if trimOk n h1 = true then .ok (.d (.obj c ds)) (h1.take n) else .bad
     | none => .bad
   else .bad
 | _ => .bad
def dMake (own : Bool) (c : Nat) (M : Sem) (d : DA) : DE := fun s h => (d s h).bnd fun zs h1 => if (clsFlds c).isEmpty then .bad else
 match callZ M (.r h1.length :: zs) (h1 ++ [.ins c []]) with
 | .ok (.d .non) h2 => madeZ own c h1.length h2
 | .exc x h2 => if trimOk h1.length (h2.set h1.length .gone) = true then .exc x ((h2.set h1.length .gone).take h1.length) else .exc x h2
 | _ => .bad
structure MkT (P : Program) (w : World) (K : PySem.W.Frag) (mg : Str → Option Value) (base : Heap) (g : G) (k : Nat) (C f : Addr) (fd : FuncData) (ps : List Str) (M : Sem) : Prop where
 mks : Mk K C f
 ok : FnOk P w K mg base (L2.CX P w) k f fd ps (lowF g M)
 bi : Binds K fd ps []
def tMakeSD (C : Addr) (sp : Sp) (dvs : List V) (E : L2.St → XK) (t : TA) : TE := fun σ H Q => t σ H fun vs H1 => ∀ x dx, H1 x = none → H1 dx = none → dx ≠ x →
 sp (.ref x :: (vs ++ dvs)) (upd (upd H1 dx (.own x)) x (.ins C dx [])) (fun v H2 => v = .non ∧ Q (.ref x) H2) (E σ)
section
variable {CX : CXT} {k : Nat} {f C : Addr} {fd : FuncData} {ps : List Str} {sp : Sp} {dvs : List V} {ds : List Value} {E : L2.St → XK} {x : Str} {p : Pos} {t : TA}
theorem run_makeSD {pins : List (Addr × Obj)} {σ : L2.St} {H : Hp} {s : Shared} {Q : VK} {us : List Value} {vs : List V} (M : Mk X.K C f) (F : FnOk X.prog X.w X.K X.mg X.base CX k f fd ps sp) (hr : Room (k + 1) X.A) (hb : Binds X.K fd ps ds) (hd : Vals dvs ds)
   (hx : PassesAt CX X σ (E σ)) (I : Inv X pins σ H s) (r : Vals vs us)
   (h : ∀ x dx, H x = none → H dx = none → dx ≠ x → sp (.ref x :: (vs ++ dvs)) (upd (upd H dx (.own x)) x (.ins C dx [])) (fun v H2 => v = .non ∧ Q (.ref x) H2) (E σ)) :
   wpAny (model X.prog X.w) X.A (call (.ref C) us) (EP X pins σ Q) X.xe s := by
 have hq := h (s.heap.objs.size + 1) s.heap.objs.size (I.hok.fresh (Nat.le_succ _)) (I.hok.fresh (Nat.le_refl _)) (Nat.ne_of_lt (Nat.lt_succ_self _))
 have I2 := Inv.made (C := C) I
 have r2 : Vals (V.ref (s.heap.objs.size + 1) :: (vs ++ dvs)) (Value.ref (s.heap.objs.size + 1) :: (us ++ ds)) := .cons rfl (r.append hd)
 have hl : (Value.ref (s.heap.objs.size + 1) :: us ++ ds).length = ps.length := by
   have e := r2.length
   rw [F.len _ _ _ _ hq] at e
   exact e.symm
 refine wpAny_call (make_map (f := f) I.kIn M.makes M.init (beq_iff_eq.mp M.fn) (codeAny_mono (F.run _ X.stack _ _ ⟨Value.ref (s.heap.objs.size + 1) :: us, []⟩ (Value.ref (s.heap.objs.size + 1) :: (us ++ ds)) _ _ (E σ) (hr.make C us [])
   (I2.env0.make C us []) (hb _ (Value.ref (s.heap.objs.size + 1) :: us) I2.kIn hl) r2 hq) fun r s' hq' => ?_))
 cases r with
 | error e => exact hx pins _ _ e s' I2 hq'
 | ok fl =>
   cases fl with
   | ret u =>
     obtain ⟨v, H', I3, rv, ev, q3⟩ := I2.after hq'
     subst ev
     exact ⟨rv, ⟨V.ref (s.heap.objs.size + 1), H', I3, rfl, q3⟩⟩
   | next => exact False.elim hq'
   | brk => exact False.elim hq'
   | cont => exact False.elim hq'
theorem pe_makeSD (M : Mk X.K C f) (F : FnOk X.prog X.w X.K X.mg X.base CX k f fd ps sp) (hr : Room (k + 1) X.A) (hg : Gl X x) (hm : X.mg x = some (.ref C)) (hb : Binds X.K fd ps ds) (hd : Vals dvs ds) (hx : ∀ σ, PassesAt CX X σ (E σ))
   (ha : PA X (e :: es) t) (hdb : (x == ("__debug__" : Str)) = false := by decide) (he : starEach (e :: es) X.env = (false, eval e X.env) :: starEach es X.env := by rfl) (hpl : (backTo pos (starEach es X.env)).any (·.1) = false := by rfl) :
   PE X (.Call (.Name x p) (e :: es) [] pos) (tMakeSD C sp dvs E t) := by
 refine ⟨fun pins s σ H Q I h => ?_⟩
 refine wpAny_Call_Name_kw (ld_glob I hg hm ?_ hdb)
 refine PySem.W.callWith_K (h₀ := X.base) I.ok.mod.kin M.kp (thn (ha.run pos pins s σ H _ I h) fun us s1 ⟨vs, H1, I1, r, q⟩ => ⟨I1.kIn, ?_⟩) he hpl
 exact run_makeSD M F hr hb hd (hx σ) I1 r q
end
theorem trim_post {ρ : List Addr} {zh : ZH} {H : Hp} (r : RelH g F ρ zh H) (n : Nat) (h : trimOk n zh = true) : RelH g F (ρ.take n) (zh.take n) H ∧ UO F (ρ.take n) (zh.take n) = UO F ρ zh := by
 unfold trimOk allGone at h
 simp only [Bool.and_eq_true, List.all_eq_true, decide_eq_true_eq] at h
 refine r.trim n (fun i o hi ho => ?_) fun i o hi ho j hj => ?_
 · have : o ∈ zh.drop n := List.mem_of_getElem? (i := i - n) (by rw [List.getElem?_drop]; rw [← ho]; congr 1; omega)
   have := h.1 o this
   cases o with
   | gone => rfl
   | _ => cases this
 · have : o ∈ zh.take n := List.mem_of_getElem? (i := i) (by rw [List.getElem?_take, if_pos hi]; exact ho)
   exact h.2 o this j hj
theorem Ext.trim {ρ ρ' : List Addr} {zh zh' : ZH} {H H' : Hp} (e : Ext F ρ zh H ρ' zh' H') (hU : UO F (ρ'.take ρ.length) (zh'.take ρ.length) = UO F ρ' zh') : Ext F ρ zh H (ρ'.take ρ.length) (zh'.take ρ.length) H' := by
 have ep : ρ'.take ρ.length = ρ := by
   obtain ⟨t, rfl⟩ := e.pre
   simp
 refine ⟨by rw [ep]; exact List.prefix_refl _, by rw [hU]; exact e.stb, e.trk, fun a h => .inl (by rw [ep] at h; exact h)⟩
theorem low_make {d : DA} (own : Bool) (c : Nat) {C : Addr} {M : Sem} (hcad : g.cad c = C) (hhas : g.has c = true) {σ : L2.St} {H : Hp} {Q : VK} (hlow : low g F W (dMake own c M d) σ H Q) : tMakeSD C (lowF g M) [] (fun σ c d H => W c d σ H) (lowA g F W d) σ H Q := by
 subst hcad
 obtain ⟨ρ, zσ, zh, RH, RS, p⟩ := hlow
 refine ⟨ρ, zσ, zh, RH, RS, PostA.bndE p fun ρ1 zs zh1 vs H1 e1 R1 rz p1 => ?_⟩
 intro xx dx nx ndx hne
 rw [List.append_nil]
 split at p1
 · exact p1.elim
 rename_i hflds
 have s1 : upd H1 dx (.own xx) xx = none := by rw [upd_ne (Ne.symm hne)]; exact nx
 obtain ⟨R2, e2, _⟩ := R1.newF (o := .own xx) ndx
 obtain ⟨R3, e3⟩ := R2.newO (o := .ins (g.cad c) dx []) (zo := .ins c []) s1 ⟨hhas, (fun p hp => by cases hp), dx, [], upd_same, rfl, rfl⟩
 have e23 := e2.trans e3
 refine call_post (zσ := zσ) (σ := σ) (W := W) R3 (zs := .r zh1.length :: zs) ⟨.ref xx, vs, rfl, ⟨xx, by rw [← R1.len]; simp, rfl⟩, RZs.mono e23.stb e23.pre rz⟩ ?_
 cases hc : callZ M (.r zh1.length :: zs) (zh1 ++ [.ins c []]) with
 | bad => rw [hc] at p1; exact p1.elim
 | exc x' h2 =>
   rw [hc] at p1
   simp only at p1
   intro ρ' cls dx' H' e4 R4 q
   split at p1
   · rename_i ht
     cases hz : h2[zh1.length]? with
     | none =>
       have hset : h2.set zh1.length .gone = h2 := by
         apply List.ext_getElem?
         intro j
         by_cases hj : zh1.length = j
         · subst hj
           rw [hz]
           have : ¬ zh1.length < h2.length := fun l => by rw [List.getElem?_eq_getElem l] at hz; cases hz
           rw [List.getElem?_eq_none (by simp; omega)]
         · rw [List.getElem?_set_ne hj]
       rw [hset] at ht p1
       obtain ⟨R5, hU⟩ := trim_post R4 _ ht
       have e5 := (e23.trans e4).trim (by rw [R1.len]; exact hU)
       rw [R1.len] at e5
       exact p1 _ cls dx' H' e5 R5 (by rw [hU]; exact q)
     | some oo =>
       cases hlv : oo.live with
       | false =>
         have : oo = .gone := by cases oo with
           | gone => rfl
           | _ => cases hlv
         subst this
         have hset : h2.set zh1.length .gone = h2 := by
           apply List.ext_getElem?
           intro j
           by_cases hj : zh1.length = j
           · subst hj
             rw [hz, List.getElem?_set_self (List.getElem?_eq_some_iff.mp hz).1]
           · rw [List.getElem?_set_ne hj]
         rw [hset] at ht p1
         obtain ⟨R5, hU⟩ := trim_post R4 _ ht
         have e5 := (e23.trans e4).trim (by rw [R1.len]; exact hU)
         rw [R1.len] at e5
         exact p1 _ cls dx' H' e5 R5 (by rw [hU]; exact q)
       | true =>
         obtain ⟨R5, e5⟩ := R4.freeze hz hlv
         obtain ⟨R6, hU⟩ := trim_post R5 _ ht
         have e6 := ((e23.trans e4).trans e5).trim (by rw [R1.len]; exact hU)
         rw [R1.len] at e6
         refine p1 _ cls dx' H' e6 R6 ?_
         rw [hU]
         obtain ⟨q1, qX, q2⟩ := q
         refine ⟨q1, qX, q2.imp id fun ⟨h0, d, fvs, h1, h2, h3, h4, h5⟩ => ⟨h0, d, fvs, h1, ?_, h3, h4, RDs.mono e5.stb _ _ h5⟩⟩
         exact (e5.stb d _ h3 h2).2
   · exact p1 ρ' cls dx' H' (e23.trans e4) R4 q
 | ok z h2 =>
   rw [hc] at p1
   cases z with
   | r i => exact p1.elim
   | e a => exact p1.elim
   | d z =>
     cases z with
     | non =>
       simp only at p1
       intro ρ' v H' e4 R4 q
       refine ⟨rz_non.mp q, ?_⟩
       have e04 := e23.trans e4
       have hx : ρ'[zh1.length]? = some xx := pre_get e4.pre (by rw [← R1.len]; simp)
       unfold madeZ at p1
       cases own with
       | true =>
         rw [if_pos rfl] at p1
         exact p1 ρ' (.ref xx) H' e04 R4 ⟨xx, hx, rfl⟩
       | false =>
         rw [if_neg Bool.false_ne_true] at p1
         cases hz : h2[zh1.length]? with
         | none => rw [hz] at p1; exact p1.elim
         | some oo =>
           rw [hz] at p1
           cases oo with
           | ins c' fs =>
             simp only at p1
             split at p1
             · rename_i hcond
               simp only [Bool.and_eq_true, beq_iff_eq] at hcond
               obtain ⟨hcc, hks⟩ := hcond
               subst hcc
               obtain ⟨hc1, hf1, dx1, fvs, hq, hk1, hr1⟩ := R4.own _ _ _ hx hz
               obtain ⟨R5, e5⟩ := R4.freeze hz rfl
               cases hfz : frzZs (fs.map (·.2)) (h2.set zh1.length .gone) with
               | none => simp only [hfz] at p1; exact p1.elim
               | some pr =>
                 obtain ⟨ds, h3⟩ := pr
                 simp only [hfz] at p1
                 split at p1
                 · rename_i ht
                   obtain ⟨R6, e6, q6⟩ := frzZs_ok R5 (RZs.mono e5.stb (List.prefix_refl _) hr1) hfz
                   obtain ⟨R7, hU⟩ := trim_post R6 _ ht
                   have e7 := (((e04).trans e5).trans e6).trim (by rw [R1.len]; exact hU)
                   rw [R1.len] at e7
                   refine p1 _ (.ref xx) H' e7 R7 (rd_obj.mpr ⟨xx, dx1, fvs, rfl, ?_, hc1, hq, by rw [hk1, hks], ?_⟩)
                   · rw [hU]
                     exact (e6.stb xx _ hq (R4.gone_notU hx)).2
                   · rw [hU]
                     exact q6
                 · exact p1.elim
             · exact p1.elim
           | _ => exact p1.elim
     | _ => exact p1.elim
theorem z_make {k : Nat} {f C : Addr} {fd : FuncData} {ps : List Str} {M : Sem} {x : Str} {p : Pos} {d : DA} (own : Bool) (c : Nat) (hK : X.K = g.K) (hcad : g.cad c = C) (hhas : g.has c = true) (T : MkT X.prog X.w X.K X.mg X.base g k C f fd ps M) (hr : Room (k + 1) X.A) (tk : Takes X W) (hg : Gl X x) (hm : X.mg x = some (.ref C)) (ha : ZA g F X W (e :: es) d)
   (hdb : (x == ("__debug__" : Str)) = false := by decide) (he : starEach (e :: es) X.env = (false, eval e X.env) :: starEach es X.env := by rfl) (hpl : (backTo pos (starEach es X.env)).any (·.1) = false := by rfl) :
   ZE g F X W (.Call (.Name x p) (e :: es) [] pos) (dMake own c M d) := by
 exact PE.imp (pe_makeSD (E := fun σ c d H => W c d σ H) T.mks T.ok hr hg hm T.bi .nil (passesAt tk) ha hdb he hpl) fun σ H Q h => low_make own c hcad hhas h
end
end Zl
end
section
namespace Zl
open PySem PySem.Spec PyProof.Rows L2
section
variable {g : G} {F : Fr} {X : Cx} {W : WX} {a b c e o value : Expr} {es : List Expr} {da db dc : DE} {pos pos' apos : Pos}
def clsZ (z : Z) (h : ZH) : Option Nat := match z with
 | .d (.obj c _) => some c
 | .r i => match h[i]? with
   | some (.ins c _) => some c
   | _ => none
 | _ => none
def MethE (P : Program) (w : World) (K : PySem.W.Frag) (mg : Str → Option Value) (base : Heap) (g : G) (k : Nat) (m : Str) (mt : Nat → Option Sem) : Prop :=
 ∀ c M, g.has c = true → mt c = some M → ∃ f fd ps, Meth g.K (g.cad c) m f ∧ FnT P w K mg base g k f fd ps M ∧ ∀ x ∈ clsFlds c, fnm x ≠ m
theorem clsZ_ok {ρ : List Addr} {zh : ZH} {H : Hp} (r : RelH g F ρ zh H) {z : Z} {v : V} (rz : RZ g (UO F ρ zh) H ρ z v) {c : Nat} (h : clsZ z zh = some c) :
   ∃ a dx fvs, v = .ref a ∧ H a = some (.ins (g.cad c) dx fvs) ∧ g.has c = true ∧ ∀ n, (∀ x ∈ clsFlds c, fnm x ≠ n) → fvs.lookup n = none := by
 have nl : ∀ (fvs : List (Str × V)) (n : Str), (∀ p ∈ fvs.map (·.1), p ≠ n) → fvs.lookup n = none := by
   intro fvs n hn
   induction fvs with
   | nil => rfl
   | cons p r ih =>
     rw [List.lookup_cons]
     have : (n == p.1) = false := by
       rw [beq_eq_false_iff_ne]
       exact fun q => hn p.1 (by simp) q.symm
     rw [this]
     exact ih fun q hq => hn q (List.mem_cons_of_mem _ hq)
 unfold clsZ at h
 split at h
 · cases h
   obtain ⟨a, dx, fvs, e, _, hc, q, k, _⟩ := rd_obj.mp rz
   refine ⟨a, dx, fvs, e, q, hc, fun n hn => nl fvs n fun p hp => ?_⟩
   rw [k] at hp
   obtain ⟨x, hx, ex⟩ := List.mem_map.mp hp
   rw [← ex]
   exact hn x hx
 · rename_i i
   obtain ⟨a, e, k⟩ := rz
   cases hz : zh[i]? with
   | none => rw [hz] at h; cases h
   | some oo =>
     rw [hz] at h
     cases oo with
     | ins c' fs =>
       cases h
       obtain ⟨hc, hf, dx, fvs, q, k2, _⟩ := r.own i a _ e hz
       refine ⟨a, dx, fvs, k, q, hc, fun n hn => nl fvs n fun p hp => ?_⟩
       rw [k2] at hp
       obtain ⟨x, hx, ex⟩ := List.mem_map.mp hp
       obtain ⟨y, hy, ey⟩ := List.mem_map.mp hx
       rw [← ex, ← ey]
       exact hn _ (hf y hy)
     | _ => cases h
 · cases h
def dMethD (mt : Nat → Option Sem) (d : DE) (da : DA) : DE := fun s h => (d s h).bnd fun z h1 => match clsZ z h1 with
 | some c => match mt c with
   | some M => (da s h1).bnd fun zs h2 => callZ M (z :: zs) h2
   | none => .bad
 | none => .bad
theorem run_fnW {k : Nat} {f : Addr} {fd : FuncData} {ps : List Str} {M : Sem} (T : FnT X.prog X.w X.K X.mg X.base g k f fd ps M) (hr : Room k X.A) (tk : Takes X W) {pins : List (Addr × Obj)} {s : Shared} {σ : L2.St} {H : Hp} {Q : VK} {us : List Value} {vs : List V}
   (I : Inv X pins σ H s) (r : Vals vs us) (h : lowF g M vs H Q (fun c d H' => W c d σ H')) : wpAny (model X.prog X.w) X.A (call (.ref f) us) (EP X pins σ Q) X.xe s := by
 have := run_fnSD (E := fun σ c d H => W c d σ H) (dvs := []) T.ok hr T.bi .nil (passesAt tk σ) I r (by rw [List.append_nil]; exact h)
 exact this
theorem z_methD {k : Nat} {m : Str} {mt : Nat → Option Sem} {pl : PySem.Sem Bool} {d : DA} (gk : ClsOk g) (hK : X.K = g.K) (T : MethE X.prog X.w X.K X.mg X.base g k m mt) (hr : Room k X.A) (tk : Takes X W) (he : ZE g F X W o da) (ha : ZA g F X W (e :: es) d)
   (hst : starEach (e :: es) X.env = (false, eval e X.env) :: starEach es X.env := by rfl) (hpl : (backTo pos (starEach es X.env)).any (·.1) = false := by rfl)
   (ht : eval (.Call (.Attribute o m apos) (e :: es) [] pos) X.env = (do
     let ov ← eval o X.env
     standAt apos.atName
     let (f, first) ← holding [ov] (getMethod ov m pl)
     callWith pos f first (backTo pos (starEach (e :: es) X.env)) (backToKw pos (keywordEach [] X.env))) := by rfl) :
   ZE g F X W (.Call (.Attribute o m apos) (e :: es) [] pos) (dMethD mt da d) := by
 refine ⟨fun pins s σ H Q I ⟨ρ, zσ, zh, RH, RS, p⟩ => ?_⟩
 refine PySem.W.methodCall_KW (pl := pl) (thn (he.run pins s σ H (fun v H1 => ∃ ρ1 z zh1, Ext F ρ zh H ρ1 zh1 H1 ∧ RelH g F ρ1 zh1 H1 ∧ RZ g (UO F ρ1 zh1) H1 ρ1 z v ∧ Post g F W ρ1 zσ zh1 σ H1 (match clsZ z zh1 with
   | some c => match mt c with
     | some M => (d zσ zh1).bnd fun zs h2 => callZ M (z :: zs) h2
     | none => .bad
   | none => .bad) Q) I ⟨ρ, zσ, zh, RH, RS, Post.bnd p fun ρ1 z zh1 v H1 e1 R1 rz p1 => ⟨ρ1, z, zh1, e1, R1, rz, p1⟩⟩) fun u s1 ⟨x, H1, I1, rx, ρ1, z, zh1, e1, R1, rz, p1⟩ => ?_) ht
 cases kc : clsZ z zh1 with
 | none => simp only [kc] at p1; exact p1.elim
 | some c =>
   simp only [kc] at p1
   cases km : mt c with
   | none => simp only [km] at p1; exact p1.elim
   | some M =>
     simp only [km] at p1
     obtain ⟨a, dx, fvs, ex, q, hc, hl⟩ := clsZ_ok R1 rz kc
     obtain ⟨f, fd, ps, hm, FT, hn⟩ := T c M hc km
     subst ex
     obtain rfl : u = Value.ref a := rx
     refine getmeth_ok I1 q (by rw [hK]; exact gk.cls c hc) (by rw [hK]; exact hm) (hl m hn) ?_
     refine PySem.W.callWith_K (first := [.ref a]) (h₀ := X.base) I.ok.mod.kin FT.kp (thn (ha.run pos pins s1 σ H1 (fun vs H2 => ∃ ρ2 zs zh2, Ext F ρ1 zh1 H1 ρ2 zh2 H2 ∧ RelH g F ρ2 zh2 H2 ∧ RZs g (UO F ρ2 zh2) H2 ρ2 zs vs ∧ Post g F W ρ2 zσ zh2 σ H2 (callZ M (z :: zs) zh2) Q) I1
       ⟨ρ1, zσ, zh1, R1, RS.mono e1, PostA.bndE p1 fun ρ2 zs zh2 vs H2 e2 R2 rzs p2 => ⟨ρ2, zs, zh2, e2, R2, rzs, p2⟩⟩) fun us s2 ⟨vs, H2, I2, r, ρ2, zs, zh2, e2, R2, rzs, p2⟩ => ⟨I2.kIn, ?_⟩) hst hpl
     exact run_fnW FT hr tk (us := .ref a :: us) (vs := .ref a :: vs) I2 (.cons rfl r) (call_post (zs := z :: zs) R2 ⟨_, _, rfl, RZ.mono e2.stb e2.pre rz, rzs⟩ p2)
theorem z_methD0 {k : Nat} {m : Str} {mt : Nat → Option Sem} {pl : PySem.Sem Bool} (gk : ClsOk g) (hK : X.K = g.K) (T : MethE X.prog X.w X.K X.mg X.base g k m mt) (hr : Room k X.A) (tk : Takes X W) (he : ZE g F X W o da)
   (ht : eval (.Call (.Attribute o m apos) [] [] pos) X.env = (do
     let ov ← eval o X.env
     standAt apos.atName
     let (f, first) ← holding [ov] (getMethod ov m pl)
     callWith pos f first (backTo pos (starEach [] X.env)) (backToKw pos (keywordEach [] X.env))) := by rfl) :
   ZE g F X W (.Call (.Attribute o m apos) [] [] pos) (dMethD mt da dNil) := by
 refine ⟨fun pins s σ H Q I ⟨ρ, zσ, zh, RH, RS, p⟩ => ?_⟩
 refine PySem.W.methodCall_KW (pl := pl) (thn (he.run pins s σ H (fun v H1 => ∃ ρ1 z zh1, Ext F ρ zh H ρ1 zh1 H1 ∧ RelH g F ρ1 zh1 H1 ∧ RZ g (UO F ρ1 zh1) H1 ρ1 z v ∧ Post g F W ρ1 zσ zh1 σ H1 (match clsZ z zh1 with
   | some c => match mt c with
     | some M => callZ M [z] zh1
     | none => .bad
   | none => .bad) Q) I ⟨ρ, zσ, zh, RH, RS, Post.bnd p fun ρ1 z zh1 v H1 e1 R1 rz p1 => ⟨ρ1, z, zh1, e1, R1, rz, p1⟩⟩) fun u s1 ⟨x, H1, I1, rx, ρ1, z, zh1, e1, R1, rz, p1⟩ => ?_) ht
 cases kc : clsZ z zh1 with
 | none => simp only [kc] at p1; exact p1.elim
 | some c =>
   simp only [kc] at p1
   cases km : mt c with
   | none => simp only [km] at p1; exact p1.elim
   | some M =>
     simp only [km] at p1
     obtain ⟨a, dx, fvs, ex, q, hc, hl⟩ := clsZ_ok R1 rz kc
     obtain ⟨f, fd, ps, hm, FT, hn⟩ := T c M hc km
     subst ex
     obtain rfl : u = Value.ref a := rx
     refine getmeth_ok I1 q (by rw [hK]; exact gk.cls c hc) (by rw [hK]; exact hm) (hl m hn) ?_
     exact PySem.W.callWith_K0 (first := [.ref a]) I1.kIn FT.kp (run_fnW FT hr tk (us := [.ref a]) (vs := [.ref a]) I1 (.cons rfl .nil) (call_post (zs := [z]) R1 ⟨_, _, rfl, rz, rfl⟩ p1))
end
end Zl
end
section
namespace Zl
open PySem PySem.Spec PyProof.Rows L2
def frD (F : Fr) (U : Addr → Prop) (D : Addr) (H : Hp) : Fr := ⟨fun a => F.P a ∨ a = D, fun a => U a ∨ a = D, H⟩
section
variable {g : G} {F : Fr} {ρ ρ' ρ0 : List Addr} {zh zh' zh0 : ZH} {H H' H0 H1 : Hp} {U : Addr → Prop} {D : Addr}
theorem uo_frD {a : Addr} : UO (frD F U D H) ρ zh a ↔ UO F ρ zh a ∨ a = D := by
 constructor
 · rintro ((h | h) | h)
   · exact .inl (.inl h)
   · exact .inr h
   · exact .inl (.inr h)
 · rintro ((h | h) | h)
   · exact .inl (.inl h)
   · exact .inr h
   · exact .inl (.inr h)
structure LcI (g : G) (F : Fr) (D : Addr) (ρ0 : List Addr) (zh0 : ZH) (H0 : Hp) (ρ : List Addr) (zh : ZH) (H : Hp) (xs : List Z) : Prop where
 d0 : H0 D = none
 rel : ∃ U, RelH g (frD F U D H) ρ zh H
 pre : ρ0 <+: ρ
 stb : Stb (UO F ρ0 zh0) H0 (fun a => UO F ρ zh a ∨ a = D) H
 trk : ∀ a o, H0 a = some o → ∃ o', H a = some o'
 fresh : ∀ a ∈ ρ, a ∈ ρ0 ∨ H0 a = none
 prot : ∀ a, F.P a → H a = H0 a
 lst : ∃ vs, H D = some (.lst vs) ∧ RZs g (fun a => UO F ρ zh a ∨ a = D) H ρ xs vs
theorem uo_frD' : UO (frD F U D H) ρ zh = fun a => UO F ρ zh a ∨ a = D := funext fun _ => propext uo_frD
theorem LcI.start (r : RelH g F ρ zh H) (n : H D = none) : LcI g F D ρ zh H ρ zh (upd H D (.lst [])) [] := by
 have nD : ∀ {a o}, H a = some o → a ≠ D := fun e => ne_of_none e n
 have s : Stb (UO F ρ zh) H (fun a => UO F ρ zh a ∨ a = D) (upd H D (.lst [])) := fun a o e nu => ⟨by rw [upd_ne (nD e)]; exact e, fun z => z.elim nu (nD e)⟩
 have hP : ∀ {a}, F.P a → a ≠ D := fun {a} h => by
   obtain ⟨e, o, k⟩ := r.prot a h
   exact nD (e.trans k)
 have hR : ∀ {a}, a ∈ ρ → a ≠ D := fun {a} h => by
   obtain ⟨o, e⟩ := r.trk a h
   exact nD e
 refine ⟨n, ⟨UO F ρ zh, r.len, r.nd, fun i a o h1 h2 => ?_, fun a h => ⟨rfl, ?_⟩, fun a h q => ?_, fun a h => ?_, ?_⟩, List.prefix_refl _, s, fun a o e => ⟨o, by rw [upd_ne (nD e)]; exact e⟩, fun _ h => .inl h, fun a h => upd_ne (hP h), [], upd_same, rfl⟩
 · rw [uo_frD']
   exact RO.mono s (List.prefix_refl _) (upd_ne (hR (List.mem_of_getElem? h1))) (r.own i a o h1 h2)
 · show ∃ o, upd H D (.lst []) a = some o
   rcases h with h | h
   · obtain ⟨e, o, k⟩ := r.prot a h
     exact ⟨o, by rw [upd_ne (hP h)]; exact e.trans k⟩
   · exact ⟨_, by rw [h]; exact upd_same⟩
 · rcases q with q | q
   · exact r.notp a h q
   · exact hR h q
 · obtain ⟨o, e⟩ := r.trk a h
   exact ⟨o, by rw [upd_ne (nD e)]; exact e⟩
 · rw [uo_frD']
   exact Stb.refl
theorem LcI.out (r0 : RelH g F ρ0 zh0 H0) {xs : List Z} (I : LcI g F D ρ0 zh0 H0 ρ zh H xs) : RelH g F ρ zh H ∧ Ext F ρ0 zh0 H0 ρ zh H ∧ ¬ UO F ρ zh D := by
 obtain ⟨U, R⟩ := I.rel
 have s : Stb (fun a => UO F ρ zh a ∨ a = D) H (UO F ρ zh) H := fun a o e nu => ⟨e, fun z => nu (.inl z)⟩
 have s2 : Stb (UO F ρ0 zh0) H0 (UO F ρ zh) H := I.stb.trans s
 have hP : ∀ {a}, F.P a → H a = F.H0 a ∧ ∃ o, F.H0 a = some o := fun {a} h => by
   obtain ⟨e, o, k⟩ := r0.prot a h
   exact ⟨(I.prot a h).trans e, o, k⟩
 have nD : ¬ UO F ρ zh D := by
   rintro (h | ⟨i, o, h1, _, _⟩)
   · obtain ⟨e, o, k⟩ := r0.prot D h
     rw [I.d0, k] at e; cases e
   · exact R.notp D (List.mem_of_getElem? h1) (.inr rfl)
 refine ⟨⟨R.len, R.nd, fun i a o h1 h2 => ?_, fun a h => hP h, fun a h q => R.notp a h (.inl q), R.trk, r0.stb.trans s2⟩, ⟨I.pre, s2, I.trk, I.fresh⟩, nD⟩
 have := R.own i a o h1 h2
 rw [uo_frD'] at this
 exact RO.mono s (List.prefix_refl _) rfl this
theorem LcI.ext {xs : List Z} (I : LcI g F D ρ0 zh0 H0 ρ zh H xs) (e : Ext (frD F U D H1) ρ zh H ρ' zh' H') (R : RelH g (frD F U D H1) ρ' zh' H') (hH : H1 = H) : LcI g F D ρ0 zh0 H0 ρ' zh' H' xs := by
 subst hH
 have s := e.stb
 rw [uo_frD', uo_frD'] at s
 have hD : H' D = H1 D := (R.prot D (.inr rfl)).1
 obtain ⟨vs, h1, h2⟩ := I.lst
 refine ⟨I.d0, ⟨fun a => UO F ρ' zh' a ∨ a = D, R.len, R.nd, fun i a o k1 k2 => ?_, fun a h => ⟨rfl, ?_⟩, R.notp, R.trk, ?_⟩, I.pre.trans e.pre, I.stb.trans s, fun a o k => ?_, fun a h => ?_, fun a h => ?_, vs, hD.trans h1, RZs.mono s e.pre h2⟩
 · have := R.own i a o k1 k2
   rw [uo_frD'] at this ⊢
   exact this
 · obtain ⟨e1, o, k⟩ := R.prot a h
   exact ⟨o, e1.trans k⟩
 · rw [uo_frD']
   exact fun a o k n => ⟨k, fun z => n (.inl z)⟩
 · obtain ⟨o1, k1⟩ := I.trk a o k
   exact e.trk a o1 k1
 · rcases e.fresh a h with h | h
   · exact I.fresh a h
   · refine .inr ?_
     cases k : H0 a with
     | none => rfl
     | some o =>
       obtain ⟨o1, k1⟩ := I.trk a o k
       rw [h] at k1; cases k1
 · exact (R.prot a (.inl h)).1.trans (I.prot a h)
theorem LcI.push {xs : List Z} {z : Z} {v : V} {vs : List V} (I : LcI g F D ρ0 zh0 H0 ρ zh H xs) (h1 : H D = some (.lst vs)) (r : RZ g (fun a => UO F ρ zh a ∨ a = D) H ρ z v) : LcI g F D ρ0 zh0 H0 ρ zh (upd H D (.lst (vs ++ [v]))) (xs ++ [z]) := by
 obtain ⟨U, R⟩ := I.rel
 obtain ⟨us, h2, h3⟩ := I.lst
 rw [h1] at h2
 cases h2
 have s : Stb (fun a => UO F ρ zh a ∨ a = D) H (fun a => UO F ρ zh a ∨ a = D) (upd H D (.lst (vs ++ [v]))) := fun a o e nu => ⟨by rw [upd_ne fun z => nu (.inr z)]; exact e, nu⟩
 have hR : ∀ {a}, a ∈ ρ → a ≠ D := fun {a} h q => R.notp a h (.inr q)
 refine ⟨I.d0, ⟨fun a => UO F ρ zh a ∨ a = D, R.len, R.nd, fun i a o k1 k2 => ?_, fun a h => ⟨rfl, ?_⟩, R.notp, fun a h => ?_, ?_⟩, I.pre, I.stb.trans s, fun a o k => ?_, I.fresh, fun a h => ?_, _, upd_same, (RZs.mono s (List.prefix_refl _) h3).append ⟨v, [], rfl, RZ.mono s (List.prefix_refl _) r, rfl⟩⟩
 · have := R.own i a o k1 k2
   rw [uo_frD'] at this ⊢
   exact RO.mono s (List.prefix_refl _) (upd_ne (hR (List.mem_of_getElem? k1))) this
 · show ∃ o, upd H D (.lst (vs ++ [v])) a = some o
   by_cases e : a = D
   · exact ⟨_, by rw [e]; exact upd_same⟩
   · rw [upd_ne e]
     obtain ⟨e1, o, k⟩ := R.prot a h
     exact ⟨o, e1.trans k⟩
 · rw [upd_ne (hR h)]
   exact R.trk a h
 · rw [uo_frD']
   exact fun a o k n => ⟨k, fun z => n (.inl z)⟩
 · obtain ⟨o1, k1⟩ := I.trk a o k
   by_cases e : a = D
   · exact ⟨_, by rw [e]; exact upd_same⟩
   · exact ⟨o1, by rw [upd_ne e]; exact k1⟩
 · have : a ≠ D := fun e => by
     have := I.prot a h
     rw [e, h1, I.d0] at this; cases this
   rw [upd_ne this]
   exact I.prot a h
end
open Classical in
noncomputable def lcLoop (gd : ZH → Prop) (t : Z → ZS) (tt : DT) (de : DE) : List Z → ZH → List Z → Out (List Z)
 | [], h, acc => .ok acc h
 | z :: zs, h, acc => match tt (t z) h with
   | .ok true h1 => match de (t z) h1 with
     | .ok y h2 => if gd h2 ∧ acc.length < 1000000 then lcLoop gd t tt de zs h2 (acc ++ [y]) else .bad
     | _ => .bad
   | .ok false h1 => if gd h1 then lcLoop gd t tt de zs h1 acc else .bad
   | _ => .bad
inductive Keep where
 | frz | own | any
abbrev W0 : WX := fun _ _ _ _ => False
section
variable {g : G} {F : Fr} {X : Cx} {W : WX}
end
end Zl
end
section
namespace Zl
open PySem PySem.Spec PyProof.Rows L2
inductive Ty where
 | non | bl | int | str | tup | lst | dic
 deriving DecidableEq
def Ty.name : Ty → String
 | .non => "NoneType" | .bl => "bool" | .int => "int" | .str => "str" | .tup => "tuple" | .lst => "list" | .dic => "dict"
def Ty.isa (a b : Ty) : Bool := a == b || (a == .bl && b == .int)
theorem ty_isa (K : PySem.W.Frag) (a b : Ty) : PySem.W.kitOne K (.type a.name) (.type b.name) = some (a.isa b) := kit_ty (by cases a <;> cases b <;> decide +kernel)
def tyZ (z : Z) (h : ZH) : Option Ty := match z with
 | .d .non => some .non
 | .d (.bl _) => some .bl
 | .d (.int _) => some .int
 | .d (.str _) => some .str
 | .d (.tup _) => some .tup
 | .d (.lst _) => some .lst
 | .r i => match h[i]? with
   | some (.dl _) => some .lst
   | some (.zl _) => some .lst
   | some (.dic _ _) => some .dic
   | _ => none
 | _ => none
section
variable {g : G} {F : Fr} {X : Cx} {W : WX} {a b c e : Expr} {es : List Expr} {da db dc : DE} {pos : Pos} {ρ : List Addr} {zσ : ZS} {zh : ZH} {σ : L2.St} {H : Hp}
theorem tyZ_ok (r : RelH g F ρ zh H) {z : Z} {v : V} (rz : RZ g (UO F ρ zh) H ρ z v) {t : Ty} (h : tyZ z zh = some t) : TyX g.K H v (.type t.name) := by
 unfold tyZ at h
 split at h
 · cases h; rw [rz_non.mp rz]; exact .base .non
 · cases h; rw [rz_bl.mp rz]; exact .base (.bl _)
 · cases h; rw [rz_int.mp rz]; exact .base (.int _)
 · cases h; rw [(rz_str.mp rz).1]; exact .base (.str _)
 · cases h; obtain ⟨a, vs, rfl, _, q, _⟩ := rd_tup.mp rz; exact q.elim (fun q => .base (.tup q)) fun ⟨_, q⟩ => .fTuple q
 · cases h; obtain ⟨a, vs, rfl, _, q, _⟩ := rd_lst.mp rz; exact .base (.lst q)
 · rename_i i
   obtain ⟨a, e1, rfl⟩ := rz
   cases hz : zh[i]? with
   | none => rw [hz] at h; cases h
   | some o =>
     rw [hz] at h
     have ro := r.own i a _ e1 hz
     cases o with
     | dl xs => cases h; obtain ⟨vs, q, _⟩ := ro; exact .base (.lst q)
     | zl xs => cases h; obtain ⟨vs, q, _⟩ := ro; exact .base (.lst q)
     | dic ks xs =>
       cases h
       obtain ⟨kvs, q, _⟩ := ro
       exact .base (.dK q)
     | _ => cases h
 · cases h
def dIsi (t : Ty) (d : DE) : DE := fun s h => (d s h).bnd fun z h1 => match tyZ z h1 with
 | some u => .ok (.d (.bl (u.isa t))) h1
 | none => .bad
theorem z_isi {T : Expr} (t : Ty) {p : Pos} (hK : X.K = g.K) (hg : Gl X "isinstance") (hm : X.mg "isinstance" = none) (hT : PE X T (tC (.ty t.name))) (ha : ZE g F X W a da)
   (h1 : starEach [a, T] X.env = (false, eval a X.env) :: starEach [T] X.env := by rfl) (h2 : starEach [T] X.env = (false, eval T X.env) :: starEach [] X.env := by rfl) (hpl : (backTo pos (starEach [T] X.env)).any (·.1) = false := by rfl) :
   ZE g F X W (.Call (.Name "isinstance" p) [a, T] [] pos) (dIsi t da) := by
 refine PE.imp (pe_callB call_isi hg hm (by decide +kernel) (pa_cons ha (pa_cons hT pa_nil h2) h1) (by decide) (by decide) h1 hpl) fun σ H Q ⟨ρ, zσ, zh, RH, RS, p⟩ => ?_
 refine ⟨ρ, zσ, zh, RH, RS, Post.bnd p fun ρ1 z zh1 v H1 e1 R1 rz p1 => ?_⟩
 cases k : tyZ z zh1 with
 | none => simp only [k] at p1; exact p1.elim
 | some u =>
   simp only [k] at p1
   exact ⟨v, .ty t.name, _, _, _, rfl, .ty _, by rw [hK]; exact tyZ_ok R1 rz k, by rw [hK]; exact ty_isa _ u t, Post.done R1 p1 (rz_bl.mpr rfl)⟩
theorem pe_tyN {x : Str} {p : Pos} {T : String} (hg : Gl X x) (hm : X.mg x = none) (hv : bootBuiltins x = some (.type T) := by decide +kernel) (hn : x ≠ "__name__" := by decide) (hd : (x == ("__debug__" : Str)) = false := by decide) : PE X (.Name x p) (tC (.ty T)) :=
 pe_bltn hg hm hv rfl hn hd
abbrev Hit := Nat → Option Bool
def HitOk (K : PySem.W.Frag) (g : G) (cv : Value) (hit : Hit) : Prop := ∀ c b, g.hasX c = true → hit c = some b → PySem.W.exmOne K (.ref (g.cad c)) cv = some b
def noExc : OutS → OutS
 | .exc _ _ _ => .bad
 | o => o
open Classical in
noncomputable def sameAll (f : Addr → OutS) : OutS := if ∀ a, f a = f 0 then f 0 else .bad
theorem sameAll_eq {f : Addr → OutS} {o : OutS} (h : ∀ a, f a = o) : sameAll f = o := by
 unfold sameAll
 rw [if_pos fun a => (h a).trans (h 0).symm]
 exact h 0
def wipeS (i : Nat) : OutS → OutS
 | .nx s h => .nx (s.set i none) h
 | .bk s h => .bk (s.set i none) h
 | .ct s h => .ct (s.set i none) h
 | .exc _ _ _ => .bad
 | o => o
noncomputable def dTryAs (body : DS) (hit : Hit) (i : Nat) (su : Addr → ZX → DS) : DS := fun s h => match body s h with
 | .exc x s1 h1 => match hit x.c with
   | some true => sameAll fun a => wipeS i (su a x (s1.set i (some (.e a))) h1)
   | some false => .exc x s1 h1
   | none => .bad
 | o => o
theorem RelS.wipe {g : G} {U : Addr → Prop} {i : Nat} {zσ : ZS} {σ : L2.St} (S : RelS g U H ρ zσ σ) : RelS g U H ρ (zσ.set i none) (σ.set i none) := by
 refine ⟨by simp [S.1], fun j z h => ?_⟩
 by_cases e : i = j
 · subst e
   have hl : i < zσ.length := by
     have := (List.getElem?_eq_some_iff.mp h).1
     simpa using this
   rw [List.getElem?_set_self hl] at h
   cases h
 · rw [List.getElem?_set_ne e] at h
   obtain ⟨v, h1, h2⟩ := S.2 j z h
   exact ⟨v, by rw [List.getElem?_set_ne e]; exact h1, h2⟩
theorem wipeS_post {i : Nat} {o : OutS} {D : Ends} {W' : WX} (p : PostS g F W ρ zh H (wipeS i o) D) :
   PostS g F W' ρ zh H o { nx := fun σ' H' => D.nx (σ'.set i none) H', rt := D.rt, bk := fun σ' H' => D.bk (σ'.set i none) H', ct := fun σ' H' => D.ct (σ'.set i none) H' } := by
 cases o with
 | exc _ _ _ => exact p.elim
 | bad => exact p
 | rt _ _ => exact p
 | nx s h => exact fun ρ' σ' H' e R S => p ρ' _ H' e R S.wipe
 | bk s h => exact fun ρ' σ' H' e R S => p ρ' _ H' e R S.wipe
 | ct s h => exact fun ρ' σ' H' e R S => p ρ' _ H' e R S.wipe
end
end Zl
end
section
namespace Zl
open PySem PySem.Spec PyProof.Rows L2
section
variable {g : G} {F : Fr} {X : Cx} {W : WX} {a b c e o value : Expr} {es : List Expr} {da db dc : DE} {pos pos' apos : Pos} {ρ : List Addr} {zσ : ZS} {zh : ZH} {σ : L2.St} {H : Hp}
abbrev FnRT (P : Program) (w : World) (K : PySem.W.Frag) (mg : Str → Option Value) (base : Heap) (g : G) (k : Nat) (f : Addr) (M : Sem) : Prop := FnR P w K mg base (L2.CX P w) k f (lowF g M)
structure CmT (P : Program) (w : World) (K : PySem.W.Frag) (mg : Str → Option Value) (base : Heap) (g : G) (k : Nat) (C : Addr) (m : Str) (M : Sem) : Prop where
 ex : ∃ mc p f, ClX.CRead K C mc ∧ ClX.CMet K C mc m p f ∧ FnRT P w K mg base g k f M
structure OwnB (K : PySem.W.Frag) (C f : Addr) (nm : Str) : Prop where
 sf : PySem.W.selfFirst K C = true
 at_ : PySem.W.findIn K (.ref C) nm = some (some (.ref f))
 fn : PySem.W.isFn K (.ref f) = true
def BinE (P : Program) (w : World) (K : PySem.W.Frag) (mg : Str → Option Value) (base : Heap) (g : G) (k : Nat) (nm : Str) (mt : Nat → Option Sem) : Prop :=
 ∀ c M, g.has c = true → mt c = some M → ∃ f fd ps, OwnB K (g.cad c) f nm ∧ FnT P w K mg base g k f fd ps M
def cutD {α : Type} (xs : List α) (lo hi : Option Int) : List α := (xs.drop (HT.sIx xs.length 0 lo)).take (HT.sIx xs.length xs.length hi - HT.sIx xs.length 0 lo)
theorem cutD_ok {U : Addr → Prop} {xs : List D} {vs : List V} {lo hi : Option Int} (r : RDs g U H xs vs) : RDs g U H (cutD xs lo hi) (cutV vs lo hi) := by
 have hd : ∀ {n : Nat} {xs : List D} {vs : List V}, RDs g U H xs vs → RDs g U H (xs.drop n) (vs.drop n) := fun {n} => by
   induction n with
   | zero => intro xs vs r; exact r
   | succ n ih =>
     intro xs vs r
     cases xs with
     | nil => rw [rds_nil.mp r]; exact rds_nil.mpr rfl
     | cons x xs => obtain ⟨v, vs', rfl, _, q⟩ := rds_cons.mp r; exact ih q
 have ht : ∀ {n : Nat} {xs : List D} {vs : List V}, RDs g U H xs vs → RDs g U H (xs.take n) (vs.take n) := fun {n} => by
   induction n with
   | zero => intro xs vs r; rw [List.take_zero, List.take_zero]; exact rds_nil.mpr rfl
   | succ n ih =>
     intro xs vs r
     cases xs with
     | nil => rw [rds_nil.mp r]; exact rds_nil.mpr rfl
     | cons x xs => obtain ⟨v, vs', rfl, q1, q⟩ := rds_cons.mp r; exact rds_cons.mpr ⟨v, _, rfl, q1, ih q⟩
 unfold cutD cutV
 rw [r.length]
 exact ht (hd r)
def dPart : Option DE → ZS → ZH → Out (Option Int)
 | none => fun _ h => .ok none h
 | some d => fun s h => (d s h).bnd fun z h1 => match z with
   | .d (.int i) => .ok (some i) h1
   | _ => .bad
def opSl (z : Z) (lo hi : Option Int) (h : ZH) : Out Z := match z with
 | .d (.str s) => .ok (.d (.str (cutD s lo hi))) h
 | .d (.tup xs) => .ok (.d (.tup (cutD xs lo hi))) h
 | .d (.scr _) => .bad
 | z => match asSeq z h with
   | some xs => .ok (.d (.lst (cutD xs lo hi))) h
   | none => .bad
def dSl (d : DE) (lo hi : Option DE) : DE := fun s h => (d s h).bnd fun z h1 => (dPart lo s h1).bnd fun l h2 => (dPart hi s h2).bnd fun u h3 => opSl z l u h3
def ZO' (g : G) (F : Fr) (X : Cx) (W : WX) (e : Option Expr) (d : Option DE) : Prop := (e = none ∧ d = none) ∨ ∃ e' d', e = some e' ∧ d = some d' ∧ ZE g F X W e' d'
theorem zo_none : ZO' g F X W none none := .inl ⟨rfl, rfl⟩
theorem zo_some (h : ZE g F X W e da) : ZO' g F X W (some e) (some da) := .inr ⟨e, da, rfl, rfl, h⟩
def lowO (g : G) (F : Fr) (W : WX) (d : ZS → ZH → Out (Option Int)) : TO := fun σ H Q => ∃ ρ zσ zh, RelH g F ρ zh H ∧ RelS g (UO F ρ zh) H ρ zσ σ ∧ match d zσ zh with
 | .ok i zh1 => ∀ ρ1 H1, Ext F ρ zh H ρ1 zh1 H1 → RelH g F ρ1 zh1 H1 → Q i H1
 | .exc x zh1 => ∀ ρ' cls dx H', Ext F ρ zh H ρ' zh1 H' → RelH g F ρ' zh1 H' → RX g (UO F ρ' zh1) H' x cls dx → W cls dx σ H'
 | .bad => False
theorem po_of {oe : Option Expr} {od : Option DE} (h : ZO' g F X W oe od) : PO X oe (lowO g F W (dPart od)) := by
 rcases h with ⟨rfl, rfl⟩ | ⟨e', d', rfl, rfl, h⟩
 · refine ⟨fun pins s σ H Q I ⟨ρ, zσ, zh, RH, RS, p⟩ => po_none.run pins s σ H Q I ?_⟩
   exact p ρ H Ext.refl RH
 · refine ⟨fun pins s σ H Q I ⟨ρ, zσ, zh, RH, RS, p⟩ => (po_some h).run pins s σ H Q I ?_⟩
   refine ⟨ρ, zσ, zh, RH, RS, ?_⟩
   dsimp only [dPart] at p
   cases k : d' zσ zh with
   | bad => rw [k] at p; exact p
   | exc x zh1 => rw [k] at p; exact p
   | ok z zh1 =>
     rw [k] at p
     intro ρ1 v H1 e1 R1 rz
     simp only [Out.bnd] at p
     split at p
     · rename_i o i1 z1 heq
       split at heq
       · cases heq
         exact ⟨_, rz_int.mp rz, p ρ1 H1 e1 R1⟩
       · cases heq
     · rename_i o i1 z1 heq
       split at heq <;> cases heq
     · exact p.elim
theorem z_sl {lo hi : Option Expr} {dl dh : Option DE} {p2 : Pos} (hK : X.K = g.K) (he : ZE g F X W e da) (h1 : ZO' g F X W lo dl) (h2 : ZO' g F X W hi dh) : ZE g F X W (.Subscript e (.Slice lo hi none p2) pos) (dSl da dl dh) := by
 refine PE.imp (pe_slice (SlR.or (sl_list (X := X)) (SlR.or (sl_str (X := X)) (sl_tupA (X := X)))) he (po_of h1) (po_of h2)) fun σ H Q ⟨ρ, zσ, zh, RH, RS, p⟩ => ?_
 refine ⟨ρ, zσ, zh, RH, RS, Post.bnd p fun ρ1 z zh1 v H1 e1 R1 rz p1 => ?_⟩
 refine ⟨ρ1, zσ, zh1, R1, RS.mono e1, ?_⟩
 cases k1 : dPart dl zσ zh1 with
 | bad => rw [k1] at p1; exact p1.elim
 | exc x h => rw [k1] at p1; exact p1
 | ok l zh2 =>
   rw [k1] at p1
   have p1 : Post g F W ρ1 zσ zh1 σ H1 ((dPart dh zσ zh2).bnd fun u h3 => opSl z l u h3) Q := p1
   intro ρ2 H2 e2 R2
   refine ⟨ρ2, zσ, zh2, R2, RS.mono (e1.trans e2), ?_⟩
   cases k2 : dPart dh zσ zh2 with
   | bad => rw [k2] at p1; exact p1.elim
   | exc x h => rw [k2] at p1; exact Post.shift (out := .exc x h) e2 p1
   | ok u zh3 =>
     rw [k2] at p1
     have p1 : Post g F W ρ1 zσ zh1 σ H1 (opSl z l u zh3) Q := p1
     intro ρ3 H3 e3 R3
     have p3 := Post.shift (e2.trans e3) p1
     have rz3 := RZ.mono (e2.trans e3).stb (e2.trans e3).pre rz
     unfold opSl at p3
     split at p3
     · rename_i s
       obtain ⟨ev, ok⟩ := rz_str.mp rz3
       refine .inr (.inl ⟨_, ev, by simpa [mkS, Str.length] using ok.2, Post.done R3 p3 (rz_str.mpr ⟨?_, fun c hc => ok.1 c ?_, ?_⟩)⟩)
       · unfold cutS cutD
         simp [mkS, Str.length]
       · exact List.mem_of_mem_drop (List.mem_of_mem_take hc)
       · have := ok.2
         unfold cutD
         rw [List.length_take, List.length_drop]
         omega
     · rename_i xs _ _
       obtain ⟨w, vs, ev, nu, q, r⟩ := rd_tup.mp rz3
       refine .inr (.inr ⟨w, vs, ev, .inl q, fun hh => ?_, fun _ pp np => new_frozen R3 np p3 fun U nu' st => rd_tup.mpr ⟨pp, _, rfl, nu', .inl upd_same, RDs.mono st _ _ (cutD_ok r)⟩⟩)
       have ec : cutD xs l u = xs := by
         unfold cutD
         have hl := r.length
         rw [← hl, hh.1, hh.2, hl]
         simp
       rw [ec] at p3
       rw [← ev]
       exact Post.done R3 p3 rz3
     · exact p3.elim
     · rename_i n1 n2 n3
       cases hz : asSeq z zh3 with
       | none => simp only [hz] at p3; exact p3.elim
       | some xs =>
         simp only [hz] at p3
         have k' : asList z zh3 = some xs := by
           unfold asSeq at hz
           unfold asList
           split at hz
           · exact hz
           · exact absurd rfl (n2 _)
           · exact absurd rfl (n3 _)
           · exact hz
           · cases hz
         obtain ⟨w, vs, ev, q, r⟩ := asList_ok R3 rz3 k'
         exact .inl ⟨w, vs, ev, SqL.of q, fun pp np => new_frozen R3 np p3 fun U nu' st => rd_lst.mpr ⟨pp, _, rfl, nu', upd_same, RDs.mono st _ _ (cutD_ok r)⟩⟩
def opMulS : Op2 := fun x y h => match x, y with
 | .d (.str s), .d (.int i) => if -1000000 ≤ i ∧ i ≤ 1 then .ok (.d (.str (if i < 1 then [] else s))) h else .bad
 | x, y => opMul x y h
def rMulS : R2 := fun x y H Q => ∃ s i, x = .str s ∧ y = .int i ∧ -1000000 ≤ i ∧ i ≤ 1 ∧ Q (.str (if i < 1 then Str.empty else s)) H
theorem op_mulS : OpR X (binaryOp .Mult) rMulS := by
 intro pins s σ H x y v u Q I rx ry h
 obtain ⟨z, i, rfl, rfl, h1, h2, q⟩ := h
 obtain ⟨t, rfl⟩ := rx
 obtain ⟨t2, rfl⟩ := ry
 by_cases hi : i < 1
 · rw [if_pos hi] at q
   exact PySem.P.mul_str_none hi (by omega) ⟨.str Str.empty, H, I.tok _, ⟨_, rfl⟩, q⟩
 · rw [if_neg hi] at q
   have e : i = 1 := by omega
   subst e
   refine PySem.P.mul_str (by decide) (fun _ hh => by simp at hh) (fun _ hh => by simp at hh) ?_
   rw [if_neg (by decide), if_pos (by simp)]
   exact ⟨.str z, H, I, ⟨t, rfl⟩, q⟩
theorem low_mulS : LowR2 g (fun x y H Q => rMulS x y H Q ∨ rI CMul (fun i j => .int (i * j)) x y H Q) opMulS := by
 intro F W ρ zσ zh σ H zx zy x y Q RH rx ry p
 unfold opMulS at p
 split at p
 · rename_i s i
   split at p
   · rename_i hi
     obtain ⟨ex, ok⟩ := rz_str.mp rx
     refine .inl ⟨_, i, ex, rz_int.mp ry, hi.1, hi.2, Post.done RH p (rz_str.mpr ⟨?_, ?_⟩)⟩
     · by_cases h1 : i < 1
       · rw [if_pos h1, if_pos h1]; rfl
       · rw [if_neg h1, if_neg h1]
     · by_cases h1 : i < 1
       · rw [if_pos h1]; exact ⟨fun c hc => (by cases hc), (by rw [sizeLine_eq]; exact Nat.zero_le _)⟩
       · rw [if_neg h1]; exact ok
   · exact p.elim
 · exact .inr (low_intC (fun i j h => cmul_of h) RH rx ry p)
theorem z_mul (ha : ZE g F X W a da) (hb : ZE g F X W b db) : ZE g F X W (.BinOp a .Mult b pos) (dBin opMulS da db) := z_op (OpR.or op_mulS op_mul) low_mulS ha hb
end
section
variable {g : G} {F : Fr} {W : WX}
end
end Zl
end
section
namespace Zl
open PySem PySem.Spec PyProof.Rows L2
section
variable {g : G} {F : Fr} {X : Cx} {W : WX} {a b c e o value : Expr} {es : List Expr} {da db dc : DE} {pos pos' apos p : Pos} {d : DA}
theorem zc_int (hK : X.K = g.K) (hm : X.mg "int" = none) (ha : ZA g F X W [e] d) (hg : Gl X "int" := by rfl) (he : starEach [e] X.env = (false, eval e X.env) :: starEach [] X.env := by rfl) : ZE g F X W (.Call (.Name "int" p) [e] [] pos) (dCall opInt d) :=
 z_callTy call_int1 low_int hg hm (by decide +kernel) ha (by decide) (by decide) he (by rfl)
theorem zc_abs (hK : X.K = g.K) (hm : X.mg "abs" = none) (ha : ZA g F X W [e] d) (hg : Gl X "abs" := by rfl) (he : starEach [e] X.env = (false, eval e X.env) :: starEach [] X.env := by rfl) : ZE g F X W (.Call (.Name "abs" p) [e] [] pos) (dCall opAbs d) :=
 z_callB call_abs low_abs hg hm (by decide +kernel) ha (by decide) (by decide) he (by rfl)
theorem zc_len (hK : X.K = g.K) (hm : X.mg "len" = none) (ha : ZA g F X W [e] d) (hg : Gl X "len" := by rfl) (he : starEach [e] X.env = (false, eval e X.env) :: starEach [] X.env := by rfl) : ZE g F X W (.Call (.Name "len" p) [e] [] pos) (dCall opLen d) :=
 z_callB call_len (by rw [hK]; exact low_len) hg hm (by decide +kernel) ha (by decide) (by decide) he (by rfl)
theorem zc_list (own : Bool) (hK : X.K = g.K) (hm : X.mg "list" = none) (ha : ZA g F X W [e] d) (hg : Gl X "list" := by rfl) (he : starEach [e] X.env = (false, eval e X.env) :: starEach [] X.env := by rfl) : ZE g F X W (.Call (.Name "list" p) [e] [] pos) (dCall (opList own) d) :=
 z_callTy call_list_of (by rw [hK]; exact low_list) hg hm (by decide +kernel) ha (by decide) (by decide) he (by rfl)
theorem zc_tuple (hK : X.K = g.K) (hm : X.mg "tuple" = none) (ha : ZA g F X W [e] d) (hg : Gl X "tuple" := by rfl) (he : starEach [e] X.env = (false, eval e X.env) :: starEach [] X.env := by rfl) : ZE g F X W (.Call (.Name "tuple" p) [e] [] pos) (dCall opTuple d) :=
 z_callTy call_tuple_of (by rw [hK]; exact low_tuple) hg hm (by decide +kernel) ha (by decide) (by decide) he (by rfl)
def hit_c (x : Nat) : Hit := fun c => isx c x
structure ExcF (K : PySem.W.Frag) (C : Addr) : Prop where
 ex : PySem.W.excIn K C [.type "ValueError", .type "Exception", .type "BaseException", .type "object"] "ValueError.__new__" = true
 kp : PySem.W.keepIn K (.ref C) = true
 sb : PySem.W.subIn K (.ref C) (.type "BaseException") = some true
 ty : PySem.W.typeIn K (.ref C) = some (.type "type")
def Cal (P : Program) (w : World) (g : G) (mg : Str → Option Value) (base : Heap) (k : Nat) (x : Str) (ps : List Str) (M : Sem) : Prop := ∃ f fd, mg x = some (.ref f) ∧ FnT P w g.K mg base g k f fd ps M
def CalMk (P : Program) (w : World) (g : G) (mg : Str → Option Value) (base : Heap) (k : Nat) (c : Nat) (ps : List Str) (M : Sem) : Prop := ∃ f fd, MkT P w g.K mg base g k (g.cad c) f fd ps M
theorem Cal.mono {P : Program} {w : World} {mg : Str → Option Value} {base : Heap} {k j : Nat} {x : Str} {ps : List Str} {M : Sem} (h : Cal P w g mg base k x ps M) (l : k ≤ j) : Cal P w g mg base j x ps M :=
 let ⟨f, fd, m, T⟩ := h; ⟨f, fd, m, T.ok.mono l, T.kp, T.bi⟩
theorem CalMk.mono {P : Program} {w : World} {mg : Str → Option Value} {base : Heap} {k j c : Nat} {ps : List Str} {M : Sem} (h : CalMk P w g mg base k c ps M) (l : k ≤ j) : CalMk P w g mg base j c ps M :=
 let ⟨f, fd, T⟩ := h; ⟨f, fd, T.mks, T.ok.mono l, T.bi⟩
def FnR.up {P : Program} {w : World} {K : PySem.W.Frag} {mg : Str → Option Value} {base : Heap} {k j : Nat} {f : Addr} {sp : Sp} (h : FnR P w K mg base (L2.CX P w) k f sp) (l : k ≤ j) : FnR P w K mg base (L2.CX P w) j f sp :=
 fun A outer s H us vs Q E hr => h A outer s H us vs Q E (hr.mono l)
theorem CmT.mono {P : Program} {w : World} {mg : Str → Option Value} {base : Heap} {k j : Nat} {C : Addr} {m : Str} {M : Sem} (h : CmT P w g.K mg base g k C m M) (l : k ≤ j) : CmT P w g.K mg base g j C m M :=
 let ⟨mc, p, f, h1, h2, h3⟩ := h.ex; ⟨mc, p, f, h1, h2, FnR.up h3 l⟩
theorem FnT.mono {P : Program} {w : World} {K : PySem.W.Frag} {mg : Str → Option Value} {base : Heap} {k j : Nat} {f : Addr} {fd : FuncData} {ps : List Str} {M : Sem} (T : FnT P w K mg base g k f fd ps M) (l : k ≤ j) : FnT P w K mg base g j f fd ps M := ⟨T.ok.mono l, T.kp, T.bi⟩
theorem BinE.mono {P : Program} {w : World} {mg : Str → Option Value} {base : Heap} {k j : Nat} {nm : Str} {mt : Nat → Option Sem} (h : BinE P w g.K mg base g k nm mt) (l : k ≤ j) : BinE P w g.K mg base g j nm mt :=
 fun c M h1 h2 => let ⟨f, fd, ps, h3, h4⟩ := h c M h1 h2; ⟨f, fd, ps, h3, h4.mono l⟩
end
end Zl
end
section
namespace Zl
open PySem PySem.Spec PyProof.Rows L2
theorem DefZ.at_ {K : PySem.W.Frag} {d : DefZ} (e : fnWA K (d.ad K) = d.val) (c : d.ok K = true) : PySem.W.keepIn K (.ref (d.ad K)) = true ∧
   ∃ oc od osl kV doc pm an cdv ct, K.lookup (d.ad K) = some ⟨oc, od, .func (PySem.W.fnOf d.name d.qual d.params d.body d.scope .none kV doc pm an cdv ct), osl⟩ ∧ PySem.W.codeIn K cdv d.qual = true := by
 obtain ⟨kp, c2⟩ := He.ba c
 refine ⟨kp, ?_⟩
 unfold fnWA at e
 cases q : K.lookup (d.ad K) with
 | none => rw [q] at c2; cases c2
 | some o =>
   obtain ⟨oc, od, dt, osl⟩ := o
   rw [q] at c2 e
   cases dt with
   | func fd =>
     obtain ⟨n1, n2, n3, n4, n5, n6, n7, n8, n9, n10, n11, n12, n13, n14, n15⟩ := fd
     have e2 : (some (n1, n2, n3, n4, n5, n6, n7, n15) : He.FnW) = some (d.name, d.qual, d.params, .stmts d.body, d.scope, mainGlobals, [], builtinsNs) := e
     simp only [Option.some.injEq, Prod.mk.injEq] at e2
     obtain ⟨h1, h2, h3, h4, h5, h6, h7, h8⟩ := e2
     subst h1 h2 h3 h4 h5 h6 h7 h8
     obtain ⟨k1, k2⟩ := He.ba c2
     cases n8 <;> first | exact ⟨oc, od, osl, n9, n10, n11, n12, n13, n14, rfl, k1⟩ | cases k2
   | _ => cases c2
theorem DefZ.funD {K : PySem.W.Frag} {d : DefZ} (e : fnWA K (d.ad K) = d.val) (c : d.ok K = true) : ∃ fd, FunD K d.name d.qual d.params d.body d.scope [] [] (d.ad K) fd := by
 obtain ⟨kp, oc, od, osl, kV, doc, pm, an, cdv, ct, h1, h2⟩ := DefZ.at_ e c
 exact ⟨_, ⟨oc, od, .none, kV, doc, pm, an, cdv, ct, osl, rfl, h1, h2, .inl ⟨rfl, rfl⟩, .inl rfl⟩, kp⟩
def obsZ (fa : List He.Fa) (ex : Exs) (fn : List He.DefD) (st : List DefZ) (K : PySem.W.Frag) : He.AlD :=
 ((fa.all fun f => f.ok K) && ((ex.all fun f => f K) && ((fn.all fun d => d.ok K) && st.all fun d => d.ok K)), (fn.map fun d => He.fnW K d.at_) ++ st.map fun d => fnWA K (d.ad K))
def valZ (fn : List He.DefD) (st : List DefZ) : He.AlD := (true, fn.map He.DefD.val ++ st.map DefZ.val)
def SaysZ (fa : List He.Fa) (ex : Exs) (fn : List He.DefD) (st : List DefZ) (K : PySem.W.Frag) : Prop := obsZ fa ex fn st K = valZ fn st
section
variable {fa : List He.Fa} {ex : Exs} {fn : List He.DefD} {st : List DefZ} {K : PySem.W.Frag}
theorem SaysZ.all (c : SaysZ fa ex fn st K) : ((fa.all fun f => f.ok K) && ((ex.all fun f => f K) && ((fn.all fun d => d.ok K) && st.all fun d => d.ok K))) = true := congrArg (fun z : He.AlD => z.1) c
theorem SaysZ.fact (c : SaysZ fa ex fn st K) (i : Nat) {f : He.Fa} (h : fa[i]? = some f := by rfl) : f.ok K = true := List.all_eq_true.mp (He.ba c.all).1 f (List.mem_of_getElem? h)
theorem SaysZ.xs (c : SaysZ fa ex fn st K) (i : Nat) {f : PySem.W.Frag → Bool} (h : ex[i]? = some f := by rfl) : f K = true := List.all_eq_true.mp (He.ba (He.ba c.all).2).1 f (List.mem_of_getElem? h)
theorem SaysZ.lists (c : SaysZ fa ex fn st K) : (fn.map fun d => He.fnW K d.at_) = fn.map He.DefD.val ∧ (st.map fun d => fnWA K (d.ad K)) = st.map DefZ.val :=
 List.append_inj (congrArg (fun z : He.AlD => z.2) c) (by rw [List.length_map, List.length_map])
theorem SaysZ.def_ (c : SaysZ fa ex fn st K) (i : Nat) {d : He.DefD} (h : fn[i]? = some d := by rfl) : ∃ fd, FunD K d.name d.qual d.params d.body d.scope (d.dvs K) (d.kws K) (He.fAd K d.at_) fd := by
 have c2 := (He.ba (He.ba (He.ba c.all).2).2).1
 have e2 : (fn.map fun d => He.fnW K d.at_)[i]? = (fn.map He.DefD.val)[i]? := by rw [c.lists.1]
 rw [List.getElem?_map, List.getElem?_map, h] at e2
 exact He.DefD.funD (Option.some.inj e2) (List.all_eq_true.mp c2 d (List.mem_of_getElem? h))
end
section
variable {K : PySem.W.Frag}
theorem xExcC_ok {x : Str} (h : xExcC x K = true) : ExcC K (He.ga K x) := by
 obtain ⟨h1, h⟩ := He.ba h
 obtain ⟨h2, h⟩ := He.ba h
 obtain ⟨h3, h⟩ := He.ba h
 obtain ⟨h4, h⟩ := He.ba h
 obtain ⟨h5, h⟩ := He.ba h
 obtain ⟨h6, h⟩ := He.ba h
 obtain ⟨h7, h8⟩ := He.ba h
 exact ⟨He.eqO_ok h1, He.eqO_ok h2, of_decide_eq_true h3, h4, He.eqO_ok h5, He.eqO_ok h6, of_decide_eq_true h7, of_decide_eq_true h8⟩
theorem xKit_ok {x y : Str} {b : Bool} (h : xKit x y b K = true) : PySem.W.kitOne K (.ref (He.ga K x)) (.ref (He.ga K y)) = some b := of_decide_eq_true h
theorem xKitT_ok {x : Str} {T : String} {b : Bool} (h : xKitT x T b K = true) : PySem.W.kitOne K (.ref (He.ga K x)) (.type T) = some b := of_decide_eq_true h
end
def cnm (c : Nat) : Str := cnames.getD c Str.empty
def gOf (hs hx : Nat → Bool) (K : PySem.W.Frag) (w : World) : G := ⟨K, fun c => He.ga K (cnm c), hs, hx, w⟩
theorem law_sp {g : G} {M : Sem} {H : Hp} {a : Addr} {ns : List Int} (hS : SqL g.K H a (ns.map V.int)) (h : ∃ zh, M [.d (.scr (ns.map D.int))] [] = .ok (.d (.bl true)) zh) : lowF g M [.ref a] H (fun v _ => v = .bl true) fun _ _ _ => False := by
 obtain ⟨zh, h⟩ := h
 have rds : ∀ ns : List Int, RDs g (UO ⟨fun _ => False, fun _ => False, H⟩ [] []) H (ns.map D.int) (ns.map V.int) := fun ns => by
   induction ns with
   | nil => exact rds_nil.mpr rfl
   | cons i r ih => exact rds_cons.mpr ⟨_, _, rfl, rd_int.mpr rfl, ih⟩
 have nu : ∀ a, ¬ UO ⟨fun _ => False, fun _ => False, H⟩ [] [] a := fun a z => by
   rcases z with z | ⟨i, o, e, _⟩
   · exact z
   · simp at e
 refine ⟨⟨fun _ => False, fun _ => False, H⟩, [], [.d (.scr (ns.map D.int))], [], ⟨rfl, List.nodup_nil, fun i a o e => by simp at e, fun a z => z.elim, fun a m => by simp at m, fun a m => by simp at m, fun a o e _ => ⟨e, nu a⟩⟩, ⟨_, _, rfl, rd_scr.mpr ⟨a, _, rfl, ?_, rds ns⟩, rfl⟩, ?_⟩
 · rcases hS with hS | hS
   · exact .inl ⟨nu a, hS⟩
   · exact .inr fun H' => .inr hS
 · rw [h]
   exact fun ρ' v H' e R rz => rz_bl.mp rz
end Zl
end
section
namespace Zl
open PySem PySem.Spec PyProof.Rows L2
theorem flat_d : ∀ xs : List D, (xs.map Z.d).flatMap refsZ = []
 | [] => rfl
 | x :: xs => by rw [List.map_cons, List.flatMap_cons, flat_d xs]; rfl
theorem ren_d (fp : List Nat) : ∀ xs : List D, (xs.map Z.d).map (renZ fp) = xs.map Z.d
 | [] => rfl
 | x :: xs => by rw [List.map_cons, List.map_cons, ren_d fp xs]; rfl
theorem callZ_d {M : Sem} {xs : List D} {h : ZH} {z : D} (e : M (xs.map .d) [] = .ok (.d z) []) : callZ M (xs.map .d) h = .ok (.d z) h := by
 unfold callZ
 rw [flat_d]
 have r : reach h 40 [] [] = [] := by unfold reach; rfl
 dsimp only
 rw [r]
 have c : closedB h [] (xs.map .d) = true := by unfold closedB; rw [flat_d]; rfl
 rw [if_pos c, ren_d, List.map_nil, e]
 simp [unZ, putBack, putFp]
theorem callZ_p {M : Sem} {i : Nat} {xs : List D} {h : ZH} {ds ds' : List D} {z : D} (hi : h[i]? = some (.dl ds)) (e : M (.r 0 :: xs.map .d) [.dl ds] = .ok (.d z) [.dl ds']) : callZ M (.r i :: xs.map .d) h = .ok (.d z) (h.set i (.dl ds')) := by
 have hg : h.getD i .gone = .dl ds := by simp [List.getD_eq_getElem?_getD, hi]
 have hl : i < h.length := (List.getElem?_eq_some_iff.mp hi).1
 unfold callZ
 rw [List.flatMap_cons, flat_d]
 have r : reach h 40 (refsZ (.r i) ++ []) [] = [i] := by
   show reach h 40 [i] [] = [i]
   unfold reach
   rw [if_neg (by simp)]
   rw [hg]
   show reach h 39 [] [i] = [i]
   unfold reach
   rfl
 dsimp only
 rw [r]
 have c : closedB h [i] (.r i :: xs.map .d) = true := by
   unfold closedB
   rw [List.flatMap_cons, flat_d]
   simp only [List.all_cons, List.all_nil, List.append_nil, refsZ, hg, refsO, nodupB, Bool.and_true]
   simp [hl]
 rw [if_pos c, List.map_cons, ren_d]
 have e1 : renZ [i] (.r i) = .r 0 := by simp [renZ]
 have e2 : ([i].map fun j => renO [i] (h.getD j .gone)) = [.dl ds] := by
   rw [List.map_cons, List.map_nil, hg]; rfl
 rw [e1, e2, e]
 simp [unZ, putBack, putFp, unO]
theorem rangeZ_get {lo : Int} {n i : Nat} {z : Z} (h : (rangeZ lo n)[i]? = some z) : i < n ∧ z = .d (.int (lo + i)) := by
 unfold rangeZ at h
 obtain ⟨hl, e⟩ := List.getElem?_eq_some_iff.mp h
 simp at hl e
 exact ⟨hl, e.symm⟩
theorem rangeZ_len {lo : Int} {n : Nat} : (rangeZ lo n).length = n := by simp [rangeZ]
def PD (n : Nat) (d : D) : Prop := ∃ p, d.py = some p ∧ p.depth ≤ n ∧ PyData.eqv p p = true
def PDs (n : Nat) (ds : List D) : Prop := ∃ ps, D.pys ds = some ps ∧ PyData.depthAll ps ≤ n ∧ PyData.eqvAll ps ps = true
theorem PD.mono {n m : Nat} {d : D} (h : PD n d) (l : n ≤ m) : PD m d := let ⟨p, a, b, c⟩ := h; ⟨p, a, Nat.le_trans b l, c⟩
theorem pd_int {i : Int} : PD 0 (.int i) := ⟨_, by unfold D.py; rfl, by simp [PyData.depth], by simp [PyData.eqv]⟩
theorem pds_of {n : Nat} : ∀ {ds : List D}, (∀ d ∈ ds, PD n d) → PDs n ds
 | [], _ => ⟨[], by unfold D.pys; rfl, by simp [PyData.depthAll], by simp [PyData.eqvAll]⟩
 | d :: ds, h => by
   obtain ⟨p, a, b, c⟩ := h d List.mem_cons_self
   obtain ⟨ps, a2, b2, c2⟩ := pds_of fun x hx => h x (List.mem_cons_of_mem _ hx)
   exact ⟨p :: ps, by unfold D.pys; rw [a, a2]; rfl, by rw [PyData.depthAll]; omega, by rw [PyData.eqvAll, c, c2]; rfl⟩
theorem peq_int {i j : Int} : peq (.int i) (.int j) = some (i == j) := by
 simp [peq, D.py, PyData.depth, PyData.eqv]
theorem peq_nil {n : Nat} {ds : List D} (h : ∀ d ∈ ds, PD n d) (l : n < 64) : peq (.lst ds) (.lst []) = some ds.isEmpty := by
 obtain ⟨ps, a, b, c⟩ := pds_of h
 have e : (D.lst ds).py = some (.list ps) := by unfold D.py; rw [a]; rfl
 have e2 : (D.lst []).py = some (.list []) := by unfold D.py; unfold D.pys; rfl
 unfold peq
 rw [e, e2]
 dsimp only
 rw [if_pos ⟨by rw [PyData.depth]; omega, by simp [PyData.depth, PyData.depthAll]⟩, PyData.eqv]
 cases ds with
 | nil => unfold D.pys at a; cases a; simp [PyData.eqvAll]
 | cons d r =>
   unfold D.pys at a
   cases hd : d.py with
   | none => rw [hd] at a; cases a
   | some q =>
     rw [hd] at a
     cases hr : D.pys r with
     | none => rw [hr] at a; cases a
     | some qs => rw [hr] at a; cases a; simp [PyData.eqvAll]
def Ints (ds : List D) : Prop := ∀ d ∈ ds, ∃ i, d = .int i
theorem Ints.pd {ds : List D} (h : Ints ds) : ∀ d ∈ ds, PD 0 d := fun d hd => by obtain ⟨i, rfl⟩ := h d hd; exact pd_int
theorem low_nat {n : Nat} : (-4611686018427387904 : Int) ≤ (n : Int) := Int.le_trans (by decide) (Int.natCast_nonneg n)
theorem high_nat {n : Nat} (hn : n < 1000000) : (n : Int) < 4611686018427387904 := Int.lt_of_lt_of_le (Int.ofNat_lt.mpr hn) (by decide)
end Zl
end
section
namespace Zl
open PySem PySem.Spec PyProof.Rows L2
theorem fnOk0 {P : Program} {w : World} {K : PySem.W.Frag} {mg : Str → Option Value} {base : Heap} {g : G} {k : Nat} {f : Addr} {fd : FuncData} {ps : List Str} {M : Sem} (F : FnOk P w K mg base (L2.CX P w) k f fd ps (lowF g M)) :
   FnOk P w K mg base L2.CX0 k f fd ps (fun vs H Q _ => lowF g M vs H Q fun _ _ _ => False) := by
 refine ⟨fun vs H Q E h => F.len vs H Q _ h, fun A outer s H args us vs Q E hr e0 hb r h => ?_⟩
 refine codeAny_mono (F.run A outer s H args us vs Q _ hr e0 hb r h) fun r s' hq => ?_
 cases r with
 | error e =>
   obtain ⟨_, _, _, _, _, _, _, _, _, _, _, _, q⟩ := hq
   exact q.elim
 | ok fl => cases fl <;> exact hq
end Zl
end
section
namespace Zl
open PySem PySem.Spec PyProof.Rows L2
def ded {α : Type} [DecidableEq α] (xs : List α) : List α := xs.foldl (fun acc x => if x ∈ acc then acc else acc ++ [x]) []
section
variable {α : Type} [DecidableEq α]
end
section
variable {prog : Program} {w : World} {A : Around} {R : Result → Shared → Prop} {I : Addr} {fp wr : List Addr} {G : Array GenState → Array GenState → Prop} {n : Nat} {P : Nat → Value → Prop} {St : Nat → Shared → Prop}
def Holds (prog : Program) (w : World) (S : Addr) (xs : List Str) (i : Nat) (h : Heap) : Prop := h.SetOf (PySem.strKind prog w) S (fun k => decide (k ∈ ded (xs.take i))) (ded (xs.take i)).length
theorem Holds.at_ {S : Addr} {xs : List Str} {i : Nat} {h h' : Heap} (k : ∀ o, h.get? S = some o → h'.get? S = some o) (hs : Holds prog w S xs i h) : Holds prog w S xs i h' := by
 obtain ⟨o, es, ep, t, ho, r⟩ := hs
 exact ⟨o, es, ep, t, k o ho, r⟩
end
section
variable {prog : Program} {w : World} {A : Around} {E : Value → Shared → Prop} {s : Shared} {l : Addr} {items : Array Value} {xs : List Str}
structure Src (prog : Program) (w : World) (T : String) (l : Addr) (items : Array Value) (ol : Obj) (itr : Obj) (St : Addr → Nat → Heap → Prop) : Prop where
 cls : ol.cls = .type T
 notSet : isSubtype (.type T) (.type "set") = pure false
 notFroz : isSubtype (.type T) (.type "frozenset") = pure false
 notDict : (Value.type T == Value.type "dict") = false
 iter : ∀ (A : Around) (E : Value → Shared → Prop) (s : Shared) (Q : Value → Shared → Prop), s.heap.get? l = some ol → Q (.ref s.heap.objs.size) { s with heap := s.heap.push itr } → wpAny (model prog w) A (pyIter (.ref l)) Q E s
 walk : ∀ (A : Around) (I : Addr), A.handled = none → l ≠ I → WalksS prog w A I [I, l] [I] (fun g g' => g' = g) items.size (fun i v => items[i]? = some v) (fun i s => St I i s.heap)
 start : ∀ (h : Heap), h.get? l = some ol → St h.objs.size 0 (h.push itr)
end
end Zl
end
section
namespace Zl
open PySem PySem.Spec PyProof.Rows L2
section
variable {prog : Program} {w : World} {l : Addr} {items : Array Value} {ol : Obj}
end
section
variable {X : Cx}
section
variable {g : G} {U : Addr → Prop} {H : Hp}
end
end
end Zl
end
section
namespace Zl
open PySem PySem.Spec PyProof.Rows L2
section
variable {g : G} {F : Fr} {W : WX} {ρ : List Addr} {zσ : ZS} {zh : ZH} {σ : L2.St} {H : Hp} {fp : List Nat}
theorem uoSel (len : ρ.length = zh.length) (hlt : ∀ i ∈ fp, i < zh.length) {a : Addr} (h : UO F (selR fp ρ) (selH fp zh) a) : UO F ρ zh a := by
 rcases h with h | ⟨k, o, h1, h2, h3⟩
 · exact .inl h
 · obtain ⟨i, e1, e2⟩ := selR_inv (fun i hi => by rw [len]; exact hlt i hi) h1
   rw [selH_get e1] at h2
   cases h2
   rw [renO_live] at h3
   have hi := hlt i (List.mem_of_getElem? e1)
   have e3 : zh.getD i .gone = zh[i] := by simp [List.getD_eq_getElem?_getD, List.getElem?_eq_getElem hi]
   rw [e3] at h3
   exact .inr ⟨i, _, e2, List.getElem?_eq_getElem hi, h3⟩
theorem RelH.sel (r : RelH g F ρ zh H) (nd : fp.Nodup) (hlt : ∀ i ∈ fp, i < zh.length) (hcl : ∀ i ∈ fp, ∀ j ∈ refsO (zh.getD i .gone), j ∈ fp) :
   RelH g F (selR fp ρ) (selH fp zh) H ∧ Stb (UO F ρ zh) H (UO F (selR fp ρ) (selH fp zh)) H := by
 have hltR : ∀ i ∈ fp, i < ρ.length := fun i hi => by rw [r.len]; exact hlt i hi
 have st : Stb (UO F ρ zh) H (UO F (selR fp ρ) (selH fp zh)) H := fun a o e nu => ⟨e, fun u => nu (uoSel r.len hlt u)⟩
 refine ⟨⟨by unfold selR selH; simp, ?_, fun k a o h1 h2 => ?_, r.prot, fun a h q => ?_, fun a h => ?_, r.stb.trans st⟩, st⟩
 · refine List.pairwise_iff_getElem.mpr fun i j hi hj hij e => ?_
   have ha : (selR fp ρ)[j]? = some (selR fp ρ)[j] := List.getElem?_eq_getElem hj
   have hb : (selR fp ρ)[i]? = some (selR fp ρ)[j] := by rw [List.getElem?_eq_getElem hi, e]
   obtain ⟨i1, e1, e2⟩ := selR_inv hltR hb
   obtain ⟨i2, e3, e4⟩ := selR_inv hltR ha
   have : i1 = i2 := by
     obtain ⟨l1, x1⟩ := List.getElem?_eq_some_iff.mp e2
     obtain ⟨l2, x2⟩ := List.getElem?_eq_some_iff.mp e4
     exact (List.getElem_inj r.nd).mp (x1.trans x2.symm)
   subst this
   obtain ⟨l1, x1⟩ := List.getElem?_eq_some_iff.mp e1
   obtain ⟨l2, x2⟩ := List.getElem?_eq_some_iff.mp e3
   have := (List.getElem_inj nd).mp (x1.trans x2.symm)
   omega
 · obtain ⟨i, e1, e2⟩ := selR_inv hltR h1
   rw [selH_get e1] at h2
   cases h2
   have hm := List.mem_of_getElem? e1
   have hi := hlt i hm
   have e3 : zh[i]? = some (zh.getD i .gone) := by simp [List.getD_eq_getElem?_getD, List.getElem?_eq_getElem hi]
   exact ren_o (RO.mono st (List.prefix_refl _) rfl (r.own i a _ e2 e3)) (hcl i hm)
 · obtain ⟨k, hk⟩ := List.getElem?_of_mem h
   obtain ⟨i, e1, e2⟩ := selR_inv hltR hk
   exact r.notp a (List.mem_of_getElem? e2) q
 · obtain ⟨k, hk⟩ := List.getElem?_of_mem h
   obtain ⟨i, e1, e2⟩ := selR_inv hltR hk
   exact r.trk a (List.mem_of_getElem? e2)
end
def refsS (s : ZS) : List Nat := s.flatMap fun o => match o with
 | some z => refsZ z
 | none => []
def renS (fp : List Nat) (s : ZS) : ZS := s.map (Option.map (renZ fp))
def refsP : ZH → List Nat := fun h => h.flatMap refsO
def gcFp (n : Nat) (roots : List Nat) (h : ZH) : List Nat := reach h 60 (refsP (h.take n) ++ roots) (List.range n)
def gcOk (n : Nat) (roots : List Nat) (h : ZH) (fp : List Nat) : Bool :=
 decide (fp.take n = List.range n) && roots.all (fun i => fp.contains i) && fp.all (fun i => decide (i < h.length) && (refsO (h.getD i .gone)).all fun j => fp.contains j) && nodupB fp
def gcS (n : Nat) (o : OutS) : OutS := match o with
 | .nx s h => let fp := gcFp n (refsS s) h; if gcOk n (refsS s) h fp = true then .nx (renS fp s) (selH fp h) else .nx s h
 | .ct s h => let fp := gcFp n (refsS s) h; if gcOk n (refsS s) h fp = true then .ct (renS fp s) (selH fp h) else .ct s h
 | .bk s h => let fp := gcFp n (refsS s) h; if gcOk n (refsS s) h fp = true then .bk (renS fp s) (selH fp h) else .bk s h
 | .rt z h => let fp := gcFp n (refsZ z) h; if gcOk n (refsZ z) h fp = true then .rt (renZ fp z) (selH fp h) else .rt z h
 | .exc x s h => let fp := gcFp n (refsS s) h; if gcOk n (refsS s) h fp = true then .exc x (renS fp s) (selH fp h) else .exc x s h
 | .bad => .bad
def wipeAll (is : List Nat) (s : ZS) : ZS := is.foldl (fun s i => s.set i none) s
def wipeO (is : List Nat) (o : OutS) : OutS := match o with
 | .nx s h => .nx (wipeAll is s) h
 | .ct s h => .ct (wipeAll is s) h
 | .bk s h => .bk (wipeAll is s) h
 | .exc x s h => .exc x (wipeAll is s) h
 | o => o
def dEnd (is : List Nat) (d : DS) : DS := fun s h => gcS h.length (wipeO is (d s h))
section
variable {g : G} {F : Fr} {W : WX} {ρ : List Addr} {zσ : ZS} {zh : ZH} {σ : L2.St} {H : Hp} {fp : List Nat} {X : Cx}
theorem gcOk_ok {n : Nat} {roots : List Nat} {h : ZH} (e : gcOk n roots h fp = true) : fp.take n = List.range n ∧ (∀ i ∈ roots, i ∈ fp) ∧ (∀ i ∈ fp, i < h.length) ∧ (∀ i ∈ fp, ∀ j ∈ refsO (h.getD i .gone), j ∈ fp) ∧ fp.Nodup := by
 unfold gcOk at e
 simp only [Bool.and_eq_true, decide_eq_true_eq, List.all_eq_true, List.contains_iff_mem] at e
 obtain ⟨⟨⟨e1, e2⟩, e3⟩, e4⟩ := e
 exact ⟨e1, e2, fun i hi => (e3 i hi).1, fun i hi => (e3 i hi).2, nodupB_ok e4⟩
theorem sel_pre {ρ ρ' : List Addr} (p : ρ <+: ρ') (e : fp.take ρ.length = List.range ρ.length) : ρ <+: selR fp ρ' := by
 obtain ⟨t, rfl⟩ := p
 have e2 : selR fp (ρ ++ t) = selR (fp.take ρ.length) (ρ ++ t) ++ selR (fp.drop ρ.length) (ρ ++ t) := by
   unfold selR
   rw [← List.map_append, List.take_append_drop]
 rw [e2, e]
 have e3 : selR (List.range ρ.length) (ρ ++ t) = ρ := by
   unfold selR
   refine List.ext_getElem (by simp) fun i h1 h2 => ?_
   simp [List.getD_eq_getElem?_getD, List.getElem?_append_left h2, h2]
 rw [e3]
 exact List.prefix_append _ _
theorem Ext.sel {ρ' : List Addr} {zh' : ZH} {H' : Hp} (r : RelH g F ρ zh H) (e : Ext F ρ zh H ρ' zh' H') (r' : RelH g F ρ' zh' H') {roots : List Nat} (k : gcOk zh.length roots zh' fp = true) :
   RelH g F (selR fp ρ') (selH fp zh') H' ∧ Ext F ρ zh H (selR fp ρ') (selH fp zh') H' ∧ Stb (UO F ρ' zh') H' (UO F (selR fp ρ') (selH fp zh')) H' := by
 obtain ⟨k1, _, k3, k4, k5⟩ := gcOk_ok k
 obtain ⟨a, b⟩ := r'.sel k5 k3 k4
 refine ⟨a, ⟨sel_pre e.pre (by rw [r.len]; exact k1), e.stb.trans b, e.trk, fun x h => ?_⟩, b⟩
 obtain ⟨j, hj⟩ := List.getElem?_of_mem h
 obtain ⟨i, _, e2⟩ := selR_inv (fun i hi => by rw [r'.len]; exact k3 i hi) hj
 exact e.fresh x (List.mem_of_getElem? e2)
theorem RelS.ren {U : Addr → Prop} {s : ZS} (r : RelS g U H ρ s σ) (h : ∀ i ∈ refsS s, i ∈ fp) : RelS g U H (selR fp ρ) (renS fp s) σ := by
 refine ⟨by unfold renS; rw [List.length_map]; exact r.1, fun i z e => ?_⟩
 unfold renS at e
 rw [List.getElem?_map] at e
 cases q : s[i]? with
 | none => rw [q] at e; cases e
 | some o =>
   cases o with
   | none => rw [q] at e; cases e
   | some z0 =>
     rw [q] at e
     cases e
     obtain ⟨v, h1, h2⟩ := r.2 i z0 q
     refine ⟨v, h1, ren_z h2 fun j hj => h j ?_⟩
     unfold refsS
     exact List.mem_flatMap.mpr ⟨some z0, List.mem_of_getElem? q, hj⟩
theorem RelS.mono' {U U' : Addr → Prop} {s : ZS} (r : RelS g U H ρ s σ) (st : Stb U H U' H) : RelS g U' H ρ s σ :=
 ⟨r.1, fun i z e => let ⟨v, h1, h2⟩ := r.2 i z e; ⟨v, h1, RZ.mono st (List.prefix_refl _) h2⟩⟩
theorem RX.mono' {U U' : Addr → Prop} {x : ZX} {cls : Value} {dx : Option Addr} (st : Stb U H U' H) (h : RX g U H x cls dx) : RX g U' H x cls dx := by
 obtain ⟨e, hX, h⟩ := h
 refine ⟨e, hX, ?_⟩
 rcases h with h | ⟨n, d, fvs, e1, nu, e2, k, q⟩
 · exact .inl h
 · exact .inr ⟨n, d, fvs, e1, (st d _ e2 nu).2, e2, k, RDs.mono st _ _ q⟩
theorem gcS_ok {o : OutS} {D : Ends} (r : RelH g F ρ zh H) (p : PostS g F W ρ zh H (gcS zh.length o) D) : PostS g F W ρ zh H o D := by
 cases o with
 | bad => exact p
 | nx s h =>
   unfold gcS at p
   dsimp only at p
   split at p
   · rename_i k
     intro ρ' σ' H' e r' s'
     obtain ⟨a, b, c⟩ := Ext.sel r e r' k
     exact p _ _ _ b a ((s'.mono' c).ren (gcOk_ok k).2.1)
   · exact p
 | ct s h =>
   unfold gcS at p
   dsimp only at p
   split at p
   · rename_i k
     intro ρ' σ' H' e r' s'
     obtain ⟨a, b, c⟩ := Ext.sel r e r' k
     exact p _ _ _ b a ((s'.mono' c).ren (gcOk_ok k).2.1)
   · exact p
 | bk s h =>
   unfold gcS at p
   dsimp only at p
   split at p
   · rename_i k
     intro ρ' σ' H' e r' s'
     obtain ⟨a, b, c⟩ := Ext.sel r e r' k
     exact p _ _ _ b a ((s'.mono' c).ren (gcOk_ok k).2.1)
   · exact p
 | rt z h =>
   unfold gcS at p
   dsimp only at p
   split at p
   · rename_i k
     intro ρ' v H' e r' s'
     obtain ⟨a, b, c⟩ := Ext.sel r e r' k
     exact p _ _ _ b a (ren_z (RZ.mono c (List.prefix_refl _) s') (gcOk_ok k).2.1)
   · exact p
 | exc x s h =>
   unfold gcS at p
   dsimp only at p
   split at p
   · rename_i k
     intro ρ' σ' cls dx H' e r' s' rx
     obtain ⟨a, b, c⟩ := Ext.sel r e r' k
     exact p _ _ _ _ _ b a ((s'.mono' c).ren (gcOk_ok k).2.1) (rx.mono' c)
   · exact p
theorem RelS.wipe1 {U : Addr → Prop} {s : ZS} (r : RelS g U H ρ s σ) (i : Nat) : RelS g U H ρ (s.set i none) σ :=
 ⟨by rw [List.length_set]; exact r.1, fun j z e => by
   by_cases h : i = j
   · subst h
     by_cases hl : i < s.length
     · rw [List.getElem?_set_self hl] at e; cases e
     · rw [List.getElem?_eq_none (by rw [List.length_set]; omega)] at e; cases e
   · rw [List.getElem?_set_ne h] at e
     exact r.2 j z e⟩
theorem RelS.wipeAll {U : Addr → Prop} : ∀ (is : List Nat) {s : ZS}, RelS g U H ρ s σ → RelS g U H ρ (Zl.wipeAll is s) σ
 | [], _, r => r
 | i :: is, s, r => RelS.wipeAll is (r.wipe1 i)
theorem wipeO_ok {o : OutS} {D : Ends} (is : List Nat) (p : PostS g F W ρ zh H (wipeO is o) D) : PostS g F W ρ zh H o D := by
 cases o with
 | bad => exact p
 | rt z h => exact p
 | nx s h => exact fun ρ' σ' H' e r' s' => p _ _ _ e r' (s'.wipeAll is)
 | ct s h => exact fun ρ' σ' H' e r' s' => p _ _ _ e r' (s'.wipeAll is)
 | bk s h => exact fun ρ' σ' H' e r' s' => p _ _ _ e r' (s'.wipeAll is)
 | exc x s h => exact fun ρ' σ' cls dx H' e r' s' rx => p _ _ _ _ _ e r' (s'.wipeAll is) rx
theorem zs_end {st : List Stmt} {d : DS} (is : List Nat) (h : ZSs g F X W st d) : ZSs g F X W st (dEnd is d) := by
 refine PSs.imp h fun D σ H => ?_
 rintro ⟨ρ, zσ, zh, r, s, p⟩
 exact ⟨ρ, zσ, zh, r, s, wipeO_ok is (gcS_ok r p)⟩
end
end Zl
end
section
namespace Zl
open PySem PySem.Spec PyProof.Rows L2
section
variable {g : G} {F : Fr} {X : Cx} {W : WX} {a b c e o value : Expr} {es : List Expr} {da db dc : DE} {pos pos' apos cpos p p2 : Pos} {d : DA} {st : Stmt} {sts : List Stmt}
def pyIn (x : D) (y : D) : Option Bool := match x.py, y.py with
 | some p, some (.list ps) => if p.depth ≤ 64 ∧ (PyData.list ps).depth ≤ 64 then some (ps.any fun z => PyData.eqv z p) else none
 | some p, some (.tuple ps) => if p.depth ≤ 64 ∧ (PyData.tuple ps).depth ≤ 64 then some (ps.any fun z => PyData.eqv z p) else none
 | _, _ => none
def opIn (neg : Bool) : Op2 := fun x y h => match y with
 | .d (.str t) => match x with
   | .d (.str [c]) => .ok (.d (.bl (if neg then !decide (c ∈ t) else decide (c ∈ t)))) h
   | _ => .bad
 | y => match viewD x h, viewD y h with
   | some p, some q => match pyIn p q with
     | some k => .ok (.d (.bl (if neg then !k else k))) h
     | none => .bad
   | _, _ => .bad
def rInAny (K : PySem.W.Frag) (neg : Bool) : R2 := fun x y H Q =>
 (∃ (c : Nat) (z : Str), x = .str ⟨#[c]⟩ ∧ y = .str z ∧ Q (.bl (if neg then !decide (c ∈ z.cps.toList) else decide (c ∈ z.cps.toList))) H) ∨
 ∃ d ds e, Dp K H x d ∧ Dp K H y e ∧ (e = .list ds ∨ e = .tuple ds) ∧ SeqAt.shaped d = true ∧ SeqAt.shaped e = true ∧ Q (.bl (if neg then !ds.any (fun z => PyData.eqv z d) else ds.any fun z => PyData.eqv z d)) H
theorem op_inAny (hu : X.A.units + 65 < cLine) : OpR X (compareOp .In) (rInAny X.K false) := by
 intro pins s σ H x y v u Q I rx ry h
 rcases h with ⟨c, z, h1, h2, q⟩ | ⟨d, ds, e, hd, he, hk, sd, se, q⟩
 · exact op_in_sign pins s σ H x y v u Q I rx ry ⟨c, z, h1, h2, q⟩
 · obtain ⟨as, r1⟩ := Dp.reads I d x v hd rx
   obtain ⟨bs, r2⟩ := Dp.reads I e y u he ry
   rcases hk with rfl | rfl
   · exact SeqAt.in_list_reads r2 r1 (SeqAt.canLay_of_shaped se) (SeqAt.canLay_of_shaped sd) (room_in_shaped sd hu) ⟨.bl _, H, I, rfl, q⟩
   · exact SeqAt.in_tuple_reads r2 r1 (SeqAt.canLay_of_shaped se) (SeqAt.canLay_of_shaped sd) (room_in_shaped sd hu) ⟨.bl _, H, I, rfl, q⟩
theorem low_inAny {neg : Bool} : LowR2 g (rInAny g.K neg) (opIn neg) := by
 intro F W ρ zσ zh σ H zx zy x y Q RH rx ry p
 unfold opIn at p
 split at p
 · rename_i t
   split at p
   · rename_i cc
     obtain ⟨e1, _⟩ := rz_str.mp rx
     obtain ⟨e2, _⟩ := rz_str.mp ry
     subst e1; subst e2
     exact .inl ⟨cc, mkS t, rfl, rfl, Post.done RH p (rz_bl.mpr rfl)⟩
   · exact p.elim
 · cases hx : viewD zx zh with
   | none => simp only [hx] at p; exact p.elim
   | some d =>
     cases hy : viewD zy zh with
     | none => simp only [hx, hy] at p; exact p.elim
     | some e =>
       simp only [hx, hy] at p
       cases k : pyIn d e with
       | none => simp only [k] at p; exact p.elim
       | some kk =>
         simp only [k] at p
         unfold pyIn at k
         cases px : d.py with
         | none => simp only [px] at k; cases k
         | some dp =>
           cases py : e.py with
           | none => simp only [px, py] at k; cases k
           | some ep =>
             obtain ⟨k1, k2⟩ := viewD_ok RH rx hx px
             obtain ⟨k3, k4⟩ := viewD_ok RH ry hy py
             rw [px, py] at k
             cases ep with
             | list ps =>
               simp only at k
               split at k
               · rename_i hd
                 cases k
                 exact .inr ⟨dp, ps, _, k1, k3, .inl rfl, shaped_of k2 hd.1, shaped_of k4 hd.2, Post.done RH p (rz_bl.mpr rfl)⟩
               · cases k
             | tuple ps =>
               simp only at k
               split at k
               · rename_i hd
                 cases k
                 exact .inr ⟨dp, ps, _, k1, k3, .inr rfl, shaped_of k2 hd.1, shaped_of k4 hd.2, Post.done RH p (rz_bl.mpr rfl)⟩
               · cases k
             | _ => cases k
theorem roomIn {k : Nat} {A : Around} (hr : Room k A) : A.units + 65 < cLine := by
 have := hr.un
 omega
theorem zt_in {k : Nat} (hK : X.K = g.K) (hr : Room k X.A) (ha : ZE g F X W a da) (hb : ZE g F X W b db)
 (hm : behindInMarks .In b = false := by first | exact nomark _ (by decide) (by decide) | rfl) : ZT g F X W (.Compare a [.In] [b] pos) (dCmpT (opIn false) da db) := zt_cmp (op_inAny (roomIn hr)) (by rw [hK]; exact low_inAny) ha hb hm
end
end Zl
end
section
namespace Zl
open PySem PySem.Spec PyProof.Rows L2
open TL (tl tl_mk mk_tl joinL tl_join join_eq spl map_tl_inj split_spl kind_ok)
section
variable {g : G} {F : Fr} {X : Cx} {W : WX} {a b c e o value : Expr} {es : List Expr} {da db dc : DE} {pos pos' apos cpos p p2 : Pos} {d : DA} {st : Stmt} {sts : List Stmt}
end
end Zl
end
section
namespace Zl
open PySem PySem.Spec PyProof.Rows L2
open TL (tl tl_mk mk_tl tl_append)
section
variable {g : G} {F : Fr} {X : Cx} {W : WX} {a b c e o value : Expr} {es : List Expr} {da db dc : DE} {pos pos' apos cpos p p2 : Pos} {d : DA} {st : Stmt} {sts : List Stmt}
inductive ZJ (g : G) (F : Fr) (X : Cx) (W : WX) : List Expr → List DE → Prop where
 | nil : ZJ g F X W [] []
 | cons {e : Expr} {d : DE} {es : List Expr} {ds : List DE} (h : ZE g F X W e d) (r : ZJ g F X W es ds) : ZJ g F X W (e :: es) (d :: ds)
structure ClsTy (K : PySem.W.Frag) (C : Addr) : Prop where
 ha : PySem.W.findIn K (.ref C) "__class__" = some (some (.builtin "object.__class__"))
 hn : PySem.W.specialIn K (.builtin "object.__class__") "__get__" = some (some (.builtin "getset_descriptor.__get__"))
 ht : PySem.W.takesIn K (.builtin "object.__class__") = some true
 hm : PySem.W.mroIn K C (.type "object") = some true
end
end Zl
end
section
namespace Zl
open PySem PySem.Spec PyProof.Rows L2
section
variable {g : G} {F : Fr} {X : Cx} {W : WX} {a b c e o value : Expr} {es : List Expr} {da db dc : DE} {pos pos' apos cpos p p2 : Pos} {d : DA} {st : Stmt} {sts : List Stmt}
structure CfT (P : Program) (w : World) (K : PySem.W.Frag) (mg : Str → Option Value) (base : Heap) (g : G) (k : Nat) (C : Addr) (m : Str) (M : Sem) : Prop where
 ex : ∃ mc f fd ps, ClX.CRead K C mc ∧ PySem.W.findCls K (.ref C) mc m = some (.val (.ref f)) ∧ FnT P w K mg base g k f fd ps M
theorem CfT.mono {P : Program} {w : World} {K : PySem.W.Frag} {mg : Str → Option Value} {base : Heap} {g : G} {k k' : Nat} {C : Addr} {m : Str} {M : Sem} (h : CfT P w K mg base g k C m M) (l : k ≤ k') : CfT P w K mg base g k' C m M :=
 let ⟨mc, f, fd, ps, a, b, c⟩ := h.ex
 ⟨mc, f, fd, ps, a, b, c.mono l⟩
theorem MethE.mono {P : Program} {w : World} {K : PySem.W.Frag} {mg : Str → Option Value} {base : Heap} {g : G} {k k' : Nat} {m : Str} {mt : Nat → Option Sem} (h : MethE P w K mg base g k m mt) (l : k ≤ k') : MethE P w K mg base g k' m mt := fun c M h1 h2 =>
 let ⟨f, fd, ps, a, b, c⟩ := h c M h1 h2
 ⟨f, fd, ps, a, b.mono l, c⟩
end
end Zl
end
section
namespace Zl
open PySem PySem.Spec PyProof.Rows L2
section
variable {prog : Program} {w : World} {A : Around} {E : Value → Shared → Prop} {s : Shared} {l : Addr} {items : Array Value}
end
end Zl
end
section
namespace Zl
open PySem PySem.Spec PyProof.Rows L2
inductive PatI where
 | lit (s : List Nat) | cap (i : Nat)
section
variable {X : Cx} {pins : List (Addr × Obj)} {σ : L2.St} {H : Hp} {s : Shared}
inductive PatOk (X : Cx) : Pattern → PatI → Prop where
 | lit {t : Str} {s : List Nat} {j : Nat} {pos pos' : Pos} (h : t = mkS s) : PatOk X (.MatchValue (.Constant (.str t) j pos) pos') (.lit s)
 | cap {n : Str} {i : Nat} {pos : Pos} (hi : X.N[i]? = some n) (hx : Loc X.env.scope n) (hf : X.fn n = true ∨ X.env.scope.names.lookup n = some .local) : PatOk X (.MatchAs none (some n) pos) (.cap i)
structure Bnd1 (X : Cx) (c : Nat × V) (b : Str × Value) : Prop where
 hi : X.N[c.1]? = some b.1
 hx : Loc X.env.scope b.1
 hf : X.fn b.1 = true ∨ X.env.scope.names.lookup b.1 = some .local
 rv : RelV c.2 b.2
end
end Zl
end
section
namespace Zl
open PySem PySem.Spec PyProof.Rows L2
structure PatR where
 items : List PatI
 star : Option Nat
section
variable {g : G} {F : Fr} {X : Cx} {W : WX} {pins : List (Addr × Obj)} {σ : L2.St} {H : Hp} {s : Shared} {e : Expr} {de : DE} {pos : Pos}
inductive RowOk (X : Cx) : List Pattern → PatR → Prop where
 | plain {ps : List Pattern} {is : List PatI} (h : Paired (PatOk X) ps is) (ne : is ≠ []) : RowOk X ps ⟨is, none⟩
 | star {ps : List Pattern} {is : List PatI} {n : Str} {j : Nat} {pos : Pos} (h : Paired (PatOk X) ps is) (ne : is ≠ []) (hi : X.N[j]? = some n) (hx : Loc X.env.scope n) (hf : X.fn n = true ∨ X.env.scope.names.lookup n = some .local) : RowOk X (ps ++ [.MatchStar (some n) pos]) ⟨is, some j⟩
inductive CasesOk (g : G) (F : Fr) (X : Cx) (W : WX) : List MatchCase → List (PatR × DS) → Prop where
 | nil : CasesOk g F X W [] []
 | cons {ps : List Pattern} {p : PatR} {pos : Pos} {body : List Stmt} {d : DS} {ms : List MatchCase} {cs : List (PatR × DS)} (h : RowOk X ps p) (hb : ZSs g F X W body d) (r : CasesOk g F X W ms cs) : CasesOk g F X W (⟨.MatchSequence ps pos, none, body⟩ :: ms) ((p, d) :: cs)
end
end Zl
end
section
namespace Zl
open PySem PySem.Spec PyProof.Rows L2
section
variable {g : G} {F : Fr} {X : Cx} {W : WX} {e : Expr} {pos pos' px py : Pos} {kk : Nat}
end
end Zl
end
section
namespace Zl
open PySem PySem.Spec PyProof.Rows L2
open AutoSeq1 (wpAny_loadPart')
end Zl
end
section
namespace Zl
open PySem PySem.Spec PyProof.Rows L2
section
variable {prog : Program} {w : World} {A : Around} {E : Value → Shared → Prop} {s : Shared}
end
end Zl
end
section
namespace Zl
open PySem PySem.Spec PyProof.Rows L2
section
variable {M : Model} {A : Around} {E : Value → Shared → Prop} {s : Shared} {env : Env}
end
end Zl
end
section
namespace Zl
open PySem PySem.Spec PyProof.Rows L2
section
variable {g : G} {F : Fr} {X : Cx} {W : WX} {e ke : Expr} {da dk : DE} {pos pos' px py : Pos} {kk : Nat}
end
end Zl
end
section
namespace Zl
open PySem PySem.Spec PyProof.Rows L2
section
variable {g : G} {F : Fr} {X : Cx} {W : WX} {e : Expr} {es : List Expr} {da : DE} {dr : DA} {p : Pos}
end
end Zl
end
section
namespace Zl
open PySem PySem.Spec PyProof.Rows L2
end Zl
end
section
namespace Zl
open PySem PySem.Spec PyProof.Rows L2
inductive Tag {A B : Sort _} (a : A) (b : B) : Type where | mk
@[irreducible] def Out.wp {α : Type} (o : Out α) (Q : α → ZH → Prop) (E : ZX → ZH → Prop) (_t : Tag Q E := .mk) : Prop := match o with
 | .ok a h => Q a h
 | .exc x h => E x h
 | .bad => False
structure KS where
 nx : ZS → ZH → Prop := fun _ _ => False
 rt : Z → ZH → Prop := fun _ _ => False
 bk : ZS → ZH → Prop := fun _ _ => False
 ct : ZS → ZH → Prop := fun _ _ => False
 ex : ZX → ZS → ZH → Prop := fun _ _ _ => False
@[irreducible] def OutS.wp (o : OutS) (K : KS) (_t : Tag K K := .mk) : Prop := match o with
 | .nx s h => K.nx s h
 | .rt z h => K.rt z h
 | .bk s h => K.bk s h
 | .ct s h => K.ct s h
 | .exc x s h => K.ex x s h
 | .bad => False
@[irreducible] def optP {α : Type} (o : Option α) (Q : α → Prop) (_t : Tag Q Q := .mk) : Prop := match o with
 | some a => Q a
 | none => False
theorem optP_some {α : Type} {a : α} {Q : α → Prop} : optP (some a) Q = Q a := by with_unfolding_all exact (id rfl)
theorem optP_none {α : Type} {Q : α → Prop} : optP (none : Option α) Q = False := by with_unfolding_all exact (id rfl)
def slotZ (i : Nat) (s : ZS) : Option Z := match s[i]? with
 | some o => o
 | none => none
def zBl : Z → Option Bool
 | .d (.bl b) => some b
 | _ => none
def zInt : Z → Option Int
 | .d (.int b) => some b
 | _ => none
theorem zBl_bl {b : Bool} : zBl (.d (.bl b)) = some b := id rfl
theorem zInt_int {b : Int} : zInt (.d (.int b)) = some b := id rfl
theorem slotZ_0 {z : Z} {s : ZS} : slotZ 0 (some z :: s) = some z := id rfl
theorem slotZ_s {o : Option Z} {s : ZS} {i : Nat} : slotZ (i + 1) (o :: s) = slotZ i s := by
 unfold slotZ
 rw [List.getElem?_cons_succ]
section
variable {α β : Type} {Q : α → ZH → Prop} {Qb : β → ZH → Prop} {E : ZX → ZH → Prop} {K : KS} {s : ZS} {h : ZH}
theorem wp_fun {o : Out α} {Q' : α → ZH → Prop} (e : ∀ a h, Q a h = Q' a h) : o.wp Q E = o.wp Q' E := by
 with_unfolding_all
   have : Q = Q' := by funext a h; exact e a h
   subst this
   rfl
theorem wp_ok {a : α} : (Out.ok a h).wp Q E = Q a h := by with_unfolding_all exact (id rfl)
theorem wp_exc {x : ZX} : (Out.exc x h : Out α).wp Q E = E x h := by with_unfolding_all exact (id rfl)
theorem wp_bad : (Out.bad : Out α).wp Q E = False := by with_unfolding_all exact (id rfl)
theorem wp_bnd {o : Out α} {f : α → ZH → Out β} : (o.bnd f).wp Qb E = o.wp (fun a h1 => (f a h1).wp Qb E) E := by with_unfolding_all
 cases o <;> rfl
theorem wp_bndS {o : Out α} {f : α → ZH → OutS} : (o.bndS s f).wp K = o.wp (fun a h1 => (f a h1).wp K) (fun x h1 => K.ex x s h1) := by with_unfolding_all
 cases o <;> rfl
theorem wps_bnd {o : OutS} {f : ZS → ZH → OutS} : (o.bnd f).wp K = o.wp ⟨fun s h => (f s h).wp K, K.rt, K.bk, K.ct, K.ex⟩ := by with_unfolding_all
 cases o <;> rfl
theorem wps_nx : (OutS.nx s h).wp K = K.nx s h := by with_unfolding_all exact (id rfl)
theorem wps_rt {z : Z} : (OutS.rt z h).wp K = K.rt z h := by with_unfolding_all exact (id rfl)
theorem wps_bk : (OutS.bk s h).wp K = K.bk s h := by with_unfolding_all exact (id rfl)
theorem wps_ct : (OutS.ct s h).wp K = K.ct s h := by with_unfolding_all exact (id rfl)
theorem wps_exc {x : ZX} : (OutS.exc x s h).wp K = K.ex x s h := by with_unfolding_all exact (id rfl)
theorem wps_bad : OutS.bad.wp K = False := by with_unfolding_all exact (id rfl)
theorem wp_iteb {c : Prop} [Decidable c] {o : Out α} : (if c then o else Out.bad).wp Q E = (c ∧ o.wp Q E) := by
 with_unfolding_all
   by_cases k : c
   · rw [if_pos k]; simp [k]
   · rw [if_neg k]; simp [k, wp_bad]
theorem Out.wp_mono {o : Out α} {Q' : α → ZH → Prop} {E' : ZX → ZH → Prop} (w : o.wp Q E) (q : ∀ a h, Q a h → Q' a h) (e : ∀ x h, E x h → E' x h) : o.wp Q' E' := by
 with_unfolding_all
   cases o with
   | ok a h => exact q a h w
   | exc x h => exact e x h w
   | bad => exact w
theorem OutS.wp_mono {o : OutS} {K' : KS} (w : o.wp K) (n : ∀ s h, K.nx s h → K'.nx s h) (r : ∀ z h, K.rt z h → K'.rt z h) (b : ∀ s h, K.bk s h → K'.bk s h) (c : ∀ s h, K.ct s h → K'.ct s h) (e : ∀ x s h, K.ex x s h → K'.ex x s h) : o.wp K' := by
 with_unfolding_all
   cases o with
   | nx s h => exact n s h w
   | rt s h => exact r s h w
   | bk s h => exact b s h w
   | ct s h => exact c s h w
   | exc x s h => exact e x s h w
   | bad => exact w
theorem wp_eq {o : Out α} {a : α} (e : o = .ok a h) (q : Q a h) : o.wp Q E := by with_unfolding_all
 rw [e]; exact q
theorem wp_get {o : Out α} {a : α} (w : o.wp (fun b h1 => b = a ∧ h1 = h) (fun _ _ => False)) : o = .ok a h := by
 with_unfolding_all
   cases o with
   | ok b h1 => exact (show b = a ∧ h1 = h from w).elim fun e1 e2 => by rw [e1, e2]
   | exc x h1 => exact w.elim
   | bad => exact w.elim
theorem wp_ex {o : Out α} (w : o.wp Q (fun _ _ => False)) : ∃ a h, o = .ok a h ∧ Q a h := by
 with_unfolding_all
   cases o with
   | ok b h1 => exact ⟨b, h1, rfl, w⟩
   | exc x h1 => exact w.elim
   | bad => exact w.elim
variable {QZ : Z → ZH → Prop} {QA : List Z → ZH → Prop} {QB : Bool → ZH → Prop} {da db dc : DE} {ds : DA} {ta tb : DT}
theorem wp_var {i : Nat} : (dVar i s h).wp QZ E = optP (slotZ i s) fun z => QZ z h := by
 with_unfolding_all
   unfold dVar slotZ
   cases s[i]? with
   | none => rfl
   | some o => cases o <;> rfl
theorem wp_C {x : D} : (dC x s h).wp QZ E = QZ (.d x) h := by with_unfolding_all exact (id rfl)
theorem wp_nil : (dNil s h).wp QA E = QA [] h := by with_unfolding_all exact (id rfl)
theorem wp_cons : (dCons da ds s h).wp QA E = (da s h).wp (fun z h1 => (ds s h1).wp (fun zs h2 => QA (z :: zs) h2) E) E := by
 with_unfolding_all
   unfold dCons
   rw [wp_bnd]
   exact wp_fun fun z h1 => by rw [wp_bnd]; rfl
theorem wp_bin {op : Op2} : (dBin op da db s h).wp QZ E = (da s h).wp (fun x h1 => (db s h1).wp (fun y h2 => (op x y h2).wp QZ E) E) E := by
 with_unfolding_all
   unfold dBin
   rw [wp_bnd]
   exact wp_fun fun z h1 => by rw [wp_bnd]
theorem wp_call {op : OpN} : (dCall op ds s h).wp QZ E = (ds s h).wp (fun zs h1 => (op zs h1).wp QZ E) E := by
 with_unfolding_all
   unfold dCall
   simp only [wp_bnd]
theorem wp_callF {M : Sem} : (dCallF M ds s h).wp QZ E = (ds s h).wp (fun zs h1 => (callZ M zs h1).wp QZ E) E := by
 with_unfolding_all
   unfold dCallF
   simp only [wp_bnd]
theorem wp_fld {f : Nat} : (dFld f da s h).wp QZ E = (da s h).wp (fun z h1 => optP (fldZ f z h1) fun x => QZ x h1) E := by
 with_unfolding_all
   unfold dFld
   rw [wp_bnd]
   refine wp_fun fun z h1 => ?_
   cases fldZ f z h1 <;> rfl
theorem wp_tup : (dTup ds s h).wp QZ E = (ds s h).wp (fun zs h1 => optP (asDs zs) fun xs => xs.length ≤ 1000000 ∧ QZ (.d (.tup xs)) h1) E := by
 with_unfolding_all
   unfold dTup
   rw [wp_bnd]
   refine wp_fun fun zs h1 => ?_
   cases asDs zs with
   | none => rfl
   | some xs => simp only [wp_iteb, wp_ok, optP]
theorem wp_lst : (dLst ds s h).wp QZ E = (ds s h).wp (fun zs h1 => optP (asDs zs) fun xs => xs.length ≤ 1000000 ∧ QZ (.d (.lst xs)) h1) E := by
 with_unfolding_all
   unfold dLst
   rw [wp_bnd]
   refine wp_fun fun zs h1 => ?_
   cases asDs zs with
   | none => rfl
   | some xs => simp only [wp_iteb, wp_ok, optP]
theorem wp_lstO : (dLstO ds s h).wp QZ E = (ds s h).wp (fun zs h1 => optP (asDs zs) fun xs => xs.length ≤ 1000000 ∧ QZ (.r h1.length) (h1 ++ [.dl xs])) E := by
 with_unfolding_all
   unfold dLstO
   rw [wp_bnd]
   refine wp_fun fun zs h1 => ?_
   cases asDs zs with
   | none => rfl
   | some xs => simp only [wp_iteb, wp_ok, optP]
theorem wp_lstZ : (dLstZ ds s h).wp QZ E = (ds s h).wp (fun zs h1 => zs.length ≤ 1000000 ∧ QZ (.r h1.length) (h1 ++ [.zl zs])) E := by
 with_unfolding_all
   unfold dLstZ
   rw [wp_bnd]
   exact wp_fun fun z h1 => by rw [wp_iteb]; rfl
theorem wp_meth {ty : Z → ZH → Bool} {op : OpM} : (dMeth ty op da ds s h).wp QZ E = (da s h).wp (fun z h1 => ty z h1 = true ∧ (ds s h1).wp (fun zs h2 => (op z zs h2).wp QZ E) E) E := by
 with_unfolding_all
   unfold dMeth
   rw [wp_bnd]
   exact wp_fun fun z h1 => by rw [wp_iteb, wp_bnd]
theorem wp_methD {mt : Nat → Option Sem} : (dMethD mt da ds s h).wp QZ E = (da s h).wp (fun z h1 => optP ((clsZ z h1).bind mt) fun M => (ds s h1).wp (fun zs h2 => (callZ M (z :: zs) h2).wp QZ E) E) E := by
 with_unfolding_all
   unfold dMethD
   rw [wp_bnd]
   refine wp_fun fun z h1 => ?_
   cases clsZ z h1 with
   | none => rfl
   | some c =>
     show (match mt c with | some M => _ | none => Out.bad).wp QZ E = optP (mt c) _
     cases mt c with
     | none => rfl
     | some M => simp [wp_bnd, optP]
theorem wp_isi {t : Ty} : (dIsi t da s h).wp QZ E = (da s h).wp (fun z h1 => optP (tyZ z h1) fun u => QZ (.d (.bl (u.isa t))) h1) E := by
 with_unfolding_all
   unfold dIsi
   rw [wp_bnd]
   refine wp_fun fun z h1 => ?_
   cases tyZ z h1 <;> rfl
theorem wp_part {d : DE} {Q : Option Int → ZH → Prop} : (dPart (some d) s h).wp Q E = (d s h).wp (fun z h1 => optP (zInt z) fun i => Q (some i) h1) E := by
 with_unfolding_all
   show ((d s h).bnd _).wp Q E = _
   rw [wp_bnd]
   refine wp_fun fun z h1 => ?_
   cases z with
   | d x => cases x <;> rfl
   | _ => rfl
theorem wp_part0 {Q : Option Int → ZH → Prop} : (dPart none s h).wp Q E = Q none h := by with_unfolding_all exact (id rfl)
theorem wp_sl {lo hi : Option DE} : (dSl da lo hi s h).wp QZ E = (da s h).wp (fun z h1 => (dPart lo s h1).wp (fun l h2 => (dPart hi s h2).wp (fun u h3 => (opSl z l u h3).wp QZ E) E) E) E := by
 with_unfolding_all
   unfold dSl
   rw [wp_bnd]
   exact wp_fun fun z h1 => by
     rw [wp_bnd]
     exact wp_fun fun l h2 => by rw [wp_bnd]
theorem wp_andV : (dAndV da db s h).wp QZ E = (da s h).wp (fun z h1 => optP (zBl z) fun b => (if b = true then db s h1 else .ok (.d (.bl false)) h1).wp QZ E) E := by
 with_unfolding_all
   unfold dAndV
   rw [wp_bnd]
   refine wp_fun fun z h1 => ?_
   cases z with
   | d x => cases x <;> first | rfl | (rename_i q; cases q <;> simp [optP, zBl, wp_ok, wp_bad, wp_bnd, wp_iteb])
   | _ => rfl
theorem wp_notV : (dNotV da s h).wp QZ E = (da s h).wp (fun z h1 => optP (zBl z) fun b => QZ (.d (.bl (!b))) h1) E := by
 with_unfolding_all
   unfold dNotV
   rw [wp_bnd]
   refine wp_fun fun z h1 => ?_
   cases z with
   | d x => cases x <;> first | rfl | (rename_i q; cases q <;> simp [optP, zBl, wp_ok, wp_bad, wp_bnd, wp_iteb])
   | _ => rfl
theorem wp_chain {op op' : Op2} : (dChain op op' da db dc s h).wp QZ E = (da s h).wp (fun x h1 => (db s h1).wp (fun y h2 => (op x y h2).wp (fun z h3 => optP (zBl z) fun b => (if b = true then (dc s h3).bnd fun w h4 => op' y w h4 else .ok (.d (.bl false)) h3).wp QZ E) E) E) E := by
 with_unfolding_all
   unfold dChain
   rw [wp_bnd]
   refine wp_fun fun x h1 => ?_
   rw [wp_bnd]
   refine wp_fun fun y h2 => ?_
   rw [wp_bnd]
   refine wp_fun fun z h3 => ?_
   cases z with
   | d x => cases x <;> first | rfl | (rename_i q; cases q <;> simp [optP, zBl, wp_ok, wp_bad, wp_bnd, wp_iteb])
   | _ => rfl
theorem wp_test : (dTest da s h).wp QB E = (da s h).wp (fun z h1 => optP (truthZ z h1) fun b => QB b h1) E := by
 with_unfolding_all
   unfold dTest
   rw [wp_bnd]
   refine wp_fun fun z h1 => ?_
   cases truthZ z h1 <;> rfl
theorem wp_cmpT {op : Op2} : (dCmpT op da db s h).wp QB E = (da s h).wp (fun x h1 => (db s h1).wp (fun y h2 => (op x y h2).wp (fun z h3 => optP (zBl z) fun b => QB b h3) E) E) E := by
 with_unfolding_all
   unfold dCmpT
   rw [wp_bnd]
   refine wp_fun fun x h1 => ?_
   rw [wp_bnd]
   refine wp_fun fun y h2 => ?_
   rw [wp_bnd]
   refine wp_fun fun z h3 => ?_
   cases z with
   | d x => cases x <;> first | rfl | (rename_i q; cases q <;> simp [optP, zBl, wp_ok, wp_bad, wp_bnd, wp_iteb])
   | _ => rfl
theorem wp_boolT : (dBoolT da s h).wp QB E = (da s h).wp (fun z h1 => optP (zBl z) fun b => QB b h1) E := by
 with_unfolding_all
   unfold dBoolT
   rw [wp_bnd]
   refine wp_fun fun z h1 => ?_
   cases z with
   | d x => cases x <;> first | rfl | (rename_i q; cases q <;> simp [optP, zBl, wp_ok, wp_bad, wp_bnd, wp_iteb])
   | _ => rfl
theorem wp_or : (dOr ta tb s h).wp QB E = (ta s h).wp (fun b h1 => (if b = true then .ok true h1 else tb s h1).wp QB E) E := by
 with_unfolding_all
   unfold dOr
   rw [wp_bnd]
theorem wp_not : (dNot ta s h).wp QB E = (ta s h).wp (fun b h1 => QB (!b) h1) E := by
 with_unfolding_all
   unfold dNot
   rw [wp_bnd]
   exact wp_fun fun z h1 => by rw [wp_ok]
variable {d d' : DS}
theorem wps_skip : (dSkip s h).wp K = K.nx s h := by with_unfolding_all exact (id rfl)
theorem wps_seq : (dSeq d d' s h).wp K = (d s h).wp ⟨fun s h => (d' s h).wp K, K.rt, K.bk, K.ct, K.ex⟩ := by
 with_unfolding_all
   unfold dSeq
   rw [wps_bnd]
theorem wps_asg {t : DG} : (dAsg da t s h).wp K = (da s h).wp (fun z h1 => (t z s h1).wp K) (fun x h1 => K.ex x s h1) := by
 with_unfolding_all
   unfold dAsg
   rw [wp_bndS]
theorem wps_set {i : Nat} {z : Z} : (gSet i z s h).wp K = K.nx (s.set i (some z)) h := by with_unfolding_all exact (id rfl)
theorem wps_drop : (dDrop da s h).wp K = (da s h).wp (fun _ h1 => K.nx s h1) (fun x h1 => K.ex x s h1) := by
 with_unfolding_all
   unfold dDrop
   rw [wp_bndS]
   rfl
theorem wps_ret : (dRet da s h).wp K = (da s h).wp (fun z h1 => K.rt z h1) (fun x h1 => K.ex x s h1) := by
 with_unfolding_all
   unfold dRet
   rw [wp_bndS]
   rfl
theorem wps_if : (dIf ta d d' s h).wp K = (ta s h).wp (fun b h1 => (if b = true then d s h1 else d' s h1).wp K) (fun x h1 => K.ex x s h1) := by
 with_unfolding_all
   unfold dIf
   rw [wp_bndS]
theorem wps_setfld {f : Nat} {dv : DE} : (dSetFld f dv da s h).wp K = (dv s h).wp (fun y h1 => (da s h1).wp (fun x h2 => (setFld f y x s h2).wp K) (fun x h1 => K.ex x s h1)) (fun x h1 => K.ex x s h1) := by
 with_unfolding_all
   unfold dSetFld
   rw [wp_bndS]
   exact wp_fun fun z h1 => by rw [wp_bndS]
theorem wps_frz {i : Nat} : (dFrz i d s h).wp K = (frzAt i s h).wp ⟨fun s h => (d s h).wp K, K.rt, K.bk, K.ct, K.ex⟩ := by
 with_unfolding_all
   unfold dFrz
   rw [wps_bnd]
def KS.tryK (hit : Hit) (su : ZX → DS) (K : KS) : KS := ⟨K.nx, K.rt, K.bk, K.ct, fun x s h => match hit x.c with
 | some true => (noExc (su x s h)).wp K
 | some false => K.ex x s h
 | none => False⟩
def KS.tryA (hit : Hit) (i : Nat) (su : Addr → ZX → DS) (K : KS) : KS := ⟨K.nx, K.rt, K.bk, K.ct, fun x s h => match hit x.c with
 | some true => (sameAll fun a => wipeS i (su a x (s.set i (some (.e a))) h)).wp K
 | some false => K.ex x s h
 | none => False⟩
theorem wps_tryAs {hit : Hit} {i : Nat} {su : Addr → ZX → DS} : (dTryAs d hit i su s h).wp K = (d s h).wp (K.tryA hit i su) := by
 with_unfolding_all
   unfold dTryAs
   cases d s h with
   | exc x s1 h1 =>
     dsimp only
     show _ = (match hit x.c with | some true => _ | some false => _ | none => False)
     split <;> simp_all [wps_exc, wps_bad]
   | _ => rfl
def KS.endK (is : List Nat) (n : Nat) (K : KS) : KS := ⟨fun s h => (gcS n (.nx (wipeAll is s) h)).wp K, fun z h => (gcS n (.rt z h)).wp K, fun s h => (gcS n (.bk (wipeAll is s) h)).wp K, fun s h => (gcS n (.ct (wipeAll is s) h)).wp K, fun x s h => (gcS n (.exc x (wipeAll is s) h)).wp K⟩
theorem wps_end {is : List Nat} : (dEnd is d s h).wp K = (d s h).wp (K.endK is h.length) := by
 with_unfolding_all
   unfold dEnd
   cases d s h <;> rfl
theorem wp_runF {n m : Nat} {zs : List Z} : (runF n m d zs h).wp QZ E = (zs.length = n ∧ (d (zs.map some ++ List.replicate (m - n) none) h).wp ⟨fun _ h => QZ (.d .non) h, QZ, fun _ _ => False, fun _ _ => False, fun x _ h => E x h⟩) := by
 with_unfolding_all
   unfold runF
   by_cases k : zs.length = n
   · rw [if_pos k]
     simp only [k, true_and]
     cases d (zs.map some ++ List.replicate (m - n) none) h <;> rfl
   · rw [if_neg k]
     simp [k, wp_bad]
theorem wps_for {di : DI} {t : DG} : (dFor di t d s h).wp K = (di s h).wp (fun it h1 => (forLoop it.guard t d it.items s h1).wp K) (fun x h1 => K.ex x s h1) := by
 with_unfolding_all
   unfold dFor
   rw [wp_bndS]
def KS.turn (gd : ZH → Prop) (I : ZS → ZH → Prop) (K : KS) : KS := ⟨fun s h => gd h ∧ I s h, K.rt, K.nx, fun s h => gd h ∧ I s h, K.ex⟩
theorem forW {gd : ZH → Prop} {t : DG} (I : Nat → ZS → ZH → Prop) {zs : List Z} (start : I 0 s h)
   (step : ∀ i z s h, zs[i]? = some z → I i s h → (t z s h).wp ⟨fun s1 h1 => (d s1 h1).wp (K.turn gd (I (i + 1))), K.rt, K.bk, K.ct, K.ex⟩)
   (fin : ∀ s h, I zs.length s h → K.nx s h) : (forLoop gd t d zs s h).wp K := by
 with_unfolding_all
   suffices H : ∀ (n : Nat) (ys : List Z) (s : ZS) (h : ZH), zs.drop n = ys → n + ys.length = zs.length → I n s h → (forLoop gd t d ys s h).wp K from H 0 zs s h rfl (by simp) start
   intro n ys
   induction ys generalizing n with
   | nil =>
     intro s h _ e i
     unfold forLoop
     exact fin s h (by simp at e; rw [← e]; exact i)
   | cons z ys ih =>
     intro s h e el i
     have hz : zs[n]? = some z := by
       have := congrArg List.head? e
       rw [List.head?_drop] at this
       exact this
     have hd : zs.drop (n + 1) = ys := by
       have := congrArg List.tail e
       rw [List.tail_drop] at this
       exact this
     have w := step n z s h hz i
     unfold forLoop
     cases ht : t z s h with
     | nx s1 h1 =>
       rw [ht] at w
       have w : (d s1 h1).wp (K.turn gd (I (n + 1))) := w
       dsimp only
       cases hd1 : d s1 h1 with
       | nx s2 h2 =>
         rw [hd1] at w
         have w : gd h2 ∧ I (n + 1) s2 h2 := w
         dsimp only
         rw [if_pos w.1]
         exact ih (n + 1) s2 h2 hd (by simp at el; omega) w.2
       | ct s2 h2 =>
         rw [hd1] at w
         have w : gd h2 ∧ I (n + 1) s2 h2 := w
         dsimp only
         rw [if_pos w.1]
         exact ih (n + 1) s2 h2 hd (by simp at el; omega) w.2
       | bk s2 h2 => rw [hd1] at w; exact w
       | rt s2 h2 => rw [hd1] at w; exact w
       | exc x s2 h2 => rw [hd1] at w; exact w
       | bad => rw [hd1] at w; exact w
     | rt s1 h1 => rw [ht] at w; exact w
     | bk s1 h1 => rw [ht] at w; exact w
     | ct s1 h1 => rw [ht] at w; exact w
     | exc x s1 h1 => rw [ht] at w; exact w
     | bad => rw [ht] at w; exact w
end
end Zl
end
section
namespace Zl
open PySem PySem.Spec PyProof.Rows L2
section
variable {s : ZS} {h : ZH} {K : KS} {QZ : Z → ZH → Prop} {E : ZX → ZH → Prop}
theorem add_i {i j : Int} : opAdd (.d (.int i)) (.d (.int j)) h = .ok (.d (.int (i + j))) h := id rfl
theorem add_s {i j : List Nat} : opAdd (.d (.str i)) (.d (.str j)) h = if i.length + j.length ≤ 1000000 then .ok (.d (.str (i ++ j))) h else .bad := id rfl
theorem sub_i {i j : Int} : opSub (.d (.int i)) (.d (.int j)) h = .ok (.d (.int (i - j))) h := id rfl
theorem mod_i {i j : Int} : opMod (.d (.int i)) (.d (.int j)) h = if 0 < j then .ok (.d (.int (i % j))) h else .bad := by
 unfold opMod opII
 by_cases k : 0 < j <;> simp [k]
theorem div_i {i j : Int} : opDiv (.d (.int i)) (.d (.int j)) h = if 0 < j ∧ j < 1073741824 then .ok (.d (.int (i / j))) h else .bad := by
 unfold opDiv opII
 by_cases k : 0 < j <;> by_cases l : j < 1073741824 <;> simp [k, l]
theorem mul_i {i j : Int} : opMulS (.d (.int i)) (.d (.int j)) h = if i.natAbs < 18446744073709551616 ∨ j.natAbs < 18446744073709551616 then .ok (.d (.int (i * j))) h else .bad := by
 show opMul (.d (.int i)) (.d (.int j)) h = _
 unfold opMul opII
 by_cases k : i.natAbs < 18446744073709551616 <;> by_cases l : j.natAbs < 18446744073709551616 <;> simp [k, l]
theorem mul_s {t : List Nat} {i : Int} : opMulS (.d (.str t)) (.d (.int i)) h = if -1000000 ≤ i ∧ i ≤ 1 then .ok (.d (.str (if i < 1 then [] else t))) h else .bad := id rfl
theorem pow_i {i j : Int} : opPow (.d (.int i)) (.d (.int j)) h = if 0 ≤ j ∧ j ≤ 1000000 ∧ i.natAbs < 18446744073709551616 then .ok (.d (.int (i ^ j.toNat))) h else .bad := by
 unfold opPow opII
 by_cases k : 0 ≤ j <;> by_cases l : j ≤ 1000000 <;> by_cases m : i.natAbs < 18446744073709551616 <;> simp [k, l, m]
theorem lt_i {i j : Int} : opLt (.d (.int i)) (.d (.int j)) h = .ok (.d (.bl (decide (i < j)))) h := id rfl
theorem le_i {i j : Int} : opLe (.d (.int i)) (.d (.int j)) h = .ok (.d (.bl (decide (i ≤ j)))) h := id rfl
theorem gt_i {i j : Int} : opGt (.d (.int i)) (.d (.int j)) h = .ok (.d (.bl (decide (j < i)))) h := id rfl
theorem ge_i {i j : Int} : opGe (.d (.int i)) (.d (.int j)) h = .ok (.d (.bl (decide (j ≤ i)))) h := id rfl
theorem int_i {i : Int} : opInt [.d (.int i)] h = .ok (.d (.int i)) h := id rfl
theorem int_b {b : Bool} : opInt [.d (.bl b)] h = .ok (.d (.int (if b then 1 else 0))) h := id rfl
theorem abs_i {i : Int} : opAbs [.d (.int i)] h = .ok (.d (.int (if i < 0 then -i else i))) h := id rfl
theorem len_l {t : List D} : opLen [.d (.lst t)] h = .ok (.d (.int t.length)) h := id rfl
theorem len_t {t : List D} : opLen [.d (.tup t)] h = .ok (.d (.int t.length)) h := id rfl
theorem len_c {t : List D} : opLen [.d (.scr t)] h = .ok (.d (.int t.length)) h := id rfl
def lenO : Option ZO → ZH → Out Z
 | some (.dl t), h => .ok (.d (.int t.length)) h
 | _, _ => .bad
theorem lenO_dl {t : List D} : lenO (some (.dl t)) h = .ok (.d (.int t.length)) h := id rfl
theorem len_r {i : Nat} : opLen [.r i] h = lenO h[i]? h := by
 unfold opLen asSeq lenO
 dsimp only
 cases h[i]? with
 | none => rfl
 | some o => cases o <;> rfl
def listO (o : Bool) : Option ZO → ZH → Out Z
 | some (.dl t), h => if o = true then .ok (.r h.length) (h ++ [.dl t]) else .ok (.d (.lst t)) h
 | _, _ => .bad
theorem listO_dl {o : Bool} {t : List D} : listO o (some (.dl t)) h = if o = true then .ok (.r h.length) (h ++ [.dl t]) else .ok (.d (.lst t)) h := id rfl
theorem list_r {o : Bool} {i : Nat} : opList o [.r i] h = listO o h[i]? h := by
 unfold opList asSeq listO
 dsimp only
 cases h[i]? with
 | none => rfl
 | some o => cases o <;> rfl
theorem tup_t {t : List D} : opTuple [.d (.tup t)] h = .ok (.d (.tup t)) h := id rfl
def tupO : Option ZO → ZH → Out Z
 | some (.dl t), h => .ok (.d (.tup t)) h
 | _, _ => .bad
theorem tupO_dl {t : List D} : tupO (some (.dl t)) h = .ok (.d (.tup t)) h := id rfl
theorem tup_r {i : Nat} : opTuple [.r i] h = tupO h[i]? h := by
 unfold opTuple asSeq tupO
 dsimp only
 cases h[i]? with
 | none => rfl
 | some o => cases o <;> rfl
theorem ix_s {t : List Nat} {i : Int} : opIx (.d (.str t)) (.d (.int i)) h = (match (ixN t.length i).bind fun j => t[j]? with | some c => .ok (.d (.str [c])) h | none => .bad) := id rfl
def ixD (xs : List D) (i : Int) (h : ZH) : Out Z := match atD xs i with
 | some x => .ok (.d x) h
 | none => .bad
theorem ix_l {t : List D} {i : Int} : opIx (.d (.lst t)) (.d (.int i)) h = ixD t i h := id rfl
theorem ix_t {t : List D} {i : Int} : opIx (.d (.tup t)) (.d (.int i)) h = ixD t i h := id rfl
theorem ix_c {t : List D} {i : Int} : opIx (.d (.scr t)) (.d (.int i)) h = ixD t i h := id rfl
def ixO (i : Int) : Option ZO → ZH → Out Z
 | some (.dl t), h => ixD t i h
 | some (.zl t), h => match atZ t i with
   | some x => .ok x h
   | none => .bad
 | _, _ => .bad
theorem ixO_dl {t : List D} {i : Int} : ixO i (some (.dl t)) h = ixD t i h := id rfl
theorem ixO_zl {t : List Z} {i : Int} : ixO i (some (.zl t)) h = match atZ t i with
 | some x => .ok x h
 | none => .bad := id rfl
theorem ix_r {k : Nat} {i : Int} : opIx (.r k) (.d (.int i)) h = ixO i h[k]? h := by
 unfold opIx ixO
 dsimp only
 cases h[k]? with
 | none => rfl
 | some o => cases o <;> rfl
theorem wp_ixD {xs : List D} {i : Int} : (ixD xs i h).wp QZ E = optP (atD xs i) fun x => QZ (.d x) h := by
 with_unfolding_all
   unfold ixD
   cases atD xs i <;> rfl
def eqO (n : Bool) (o : Option Bool) (h : ZH) : Out Z := match o with
 | some k => .ok (.d (.bl (if n then !k else k))) h
 | none => .bad
theorem eq_v {n : Bool} {x y : Z} : opEq n x y h = match viewD x h, viewD y h with
 | some p, some q => eqO n (peq p q) h
 | _, _ => .bad := by
 unfold opEq eqO
 cases viewD x h <;> cases viewD y h <;> rfl
theorem eq_d {n : Bool} {x y : D} : opEq n (.d x) (.d y) h = eqO n (peq x y) h := by rw [eq_v]; rfl
def viewO : Option ZO → Option D
 | some (.dl xs) => some (.lst xs)
 | _ => none
theorem viewO_dl {xs : List D} : viewO (some (.dl xs)) = some (.lst xs) := id rfl
theorem view_r {i : Nat} : viewD (.r i) h = viewO h[i]? := by
 show (match h[i]? with
   | some (.dl xs) => some (D.lst xs)
   | _ => none) = viewO h[i]?
 unfold viewO
 all_goals (rcases h[i]? with _ | o)
 all_goals first | rfl | (cases o <;> rfl)
theorem view_d {x : D} : viewD (.d x) h = some x := id rfl
theorem eq_rd {n : Bool} {i : Nat} {y : D} : opEq n (.r i) (.d y) h = match viewO h[i]? with
 | some p => eqO n (peq p y) h
 | none => .bad := by
 rw [eq_v, view_r]
 cases viewO h[i]? <;> rfl
theorem peq_ii {i j : Int} : peq (.int i) (.int j) = some (decide (i = j)) := by
 rw [peq_int]
 congr 1
theorem wp_eqO {n : Bool} {o : Option Bool} : (eqO n o h).wp QZ E = optP o fun k => QZ (.d (.bl (if n then !k else k))) h := by
 with_unfolding_all
   unfold eqO
   cases o <;> rfl
theorem tr_b {b : Bool} : truthZ (.d (.bl b)) h = some b := id rfl
def isLstO : Option ZO → Bool
 | some (.dl _) => true
 | some (.zl _) => true
 | _ => false
theorem isLst_r {i : Nat} : isLst (.r i) h = isLstO h[i]? := by
 show (match h[i]? with
   | some (.dl _) => true
   | some (.zl _) => true
   | _ => false) = isLstO h[i]?
 unfold isLstO
 all_goals (rcases h[i]? with _ | o)
 all_goals first | rfl | (cases o <;> rfl)
theorem isLstO_dl {b : List D} : isLstO (some (.dl b)) = true := id rfl
def appO (i : Nat) (z : Z) : Option ZO → ZH → Out Z
 | some (.dl xs), h => match z with
   | .d y => if xs.length < 1000000 then .ok (.d .non) (h.set i (.dl (xs ++ [y]))) else .bad
   | .r j => if xs.isEmpty = true then .ok (.d .non) (h.set i (.zl [.r j])) else .bad
   | _ => .bad
 | some (.zl xs), h => if xs.length < 1000000 then .ok (.d .non) (h.set i (.zl (xs ++ [z]))) else .bad
 | _, _ => .bad
theorem appO_dl {i : Nat} {y : D} {xs : List D} : appO i (.d y) (some (.dl xs)) h = if xs.length < 1000000 then .ok (.d .non) (h.set i (.dl (xs ++ [y]))) else .bad := id rfl
theorem app_r {i : Nat} {z : Z} : opAppend (.r i) [z] h = appO i z h[i]? h := by
 unfold opAppend appO
 dsimp only
 cases h[i]? with
 | none => cases z <;> rfl
 | some o =>
   cases o with
   | dl xs =>
     cases z with
     | d x => rfl
     | r j => cases xs <;> rfl
     | e a => cases xs <;> rfl
   | zl xs => cases z <;> rfl
   | _ => cases z <;> rfl
def popO (i : Nat) : Option ZO → ZH → Out Z
 | some (.dl xs), h => match xs.getLast? with
   | some y => .ok (.d y) (h.set i (.dl xs.dropLast))
   | none => .bad
 | _, _ => .bad
theorem pop_r {i : Nat} : opPop (.r i) [] h = popO i h[i]? h := by
 unfold opPop popO
 dsimp only
 cases h[i]? with
 | none => rfl
 | some o => cases o <;> rfl
theorem popO_dl {i : Nat} {xs : List D} {y : D} : popO i (some (.dl (xs ++ [y]))) h = .ok (.d y) (h.set i (.dl xs)) := by
 unfold popO
 simp
def revO (i : Nat) : Option ZO → ZH → Out Z
 | some (.dl xs), h => .ok (.d .non) (h.set i (.dl xs.reverse))
 | _, _ => .bad
theorem rev_r {i : Nat} : opReverse (.r i) [] h = revO i h[i]? h := by
 unfold opReverse revO
 dsimp only
 cases h[i]? with
 | none => rfl
 | some o => cases o <;> rfl
theorem revO_dl {i : Nat} {xs : List D} : revO i (some (.dl xs)) h = .ok (.d .non) (h.set i (.dl xs.reverse)) := id rfl
theorem asDs_0 : asDs [] = some [] := id rfl
theorem asDs_s {x : D} {zs : List Z} : asDs (.d x :: zs) = (asDs zs).bind fun xs => some (x :: xs) := id rfl
theorem bind_s {α β : Type} {a : α} {f : α → Option β} : (some a).bind f = f a := id rfl
def itO (i : Nat) : Option ZO → Option ZIt
 | some (.dl xs) => some ⟨xs.map .d, some (i, .dl xs)⟩
 | some (.zl zs) => some ⟨zs, some (i, .zl zs)⟩
 | _ => none
theorem itO_dl {i : Nat} {xs : List D} : itO i (some (.dl xs)) = some ⟨xs.map .d, some (i, .dl xs)⟩ := id rfl
def InR (j : Int) : Prop := -4611686018427387904 ≤ j ∧ j < 4611686018427387904
theorem inR_nat {n : Nat} (hn : n < 1000000) : InR (n : Int) := ⟨low_nat, high_nat hn⟩
theorem inR_of {j : Int} (h0 : -1000000 ≤ j) (h1 : j ≤ 1000000) : InR j := ⟨by omega, by omega⟩
theorem wp_rng1 {d : DA} {Q : ZIt → ZH → Prop} : (iRange1 d s h).wp Q E = (d s h).wp (fun zs h1 => optP (match zs with | [z] => zInt z | _ => none) fun j => InR j ∧ Q ⟨rangeZ 0 j.toNat, none⟩ h1) E := by
 with_unfolding_all
   unfold iRange1
   rw [wp_bnd]
   refine wp_fun fun zs h1 => ?_
   match zs with
   | [] => rfl
   | [.d x] =>
     cases x with
     | int j =>
       show (if _ then _ else _ : Out ZIt).wp Q E = (InR j ∧ _)
       rw [wp_iteb]
       simp only [Bool.and_eq_true, decide_eq_true_eq, InR, wp_ok]
     | _ => rfl
   | [.r _] => rfl
   | [.e _] => rfl
   | .d x :: b :: c => cases x <;> rfl
   | .r _ :: b :: c => rfl
   | .e _ :: b :: c => rfl
theorem isa_int_bl : Ty.isa .int .bl = false := id rfl
theorem isa_int_int : Ty.isa .int .int = true := id rfl
theorem isa_str_str : Ty.isa .str .str = true := id rfl
theorem isa_tup_tup : Ty.isa .tup .tup = true := id rfl
theorem isa_lst_lst : Ty.isa .lst .lst = true := id rfl
theorem ty_i {x : Int} : tyZ (.d (.int x)) h = some .int := id rfl
theorem ty_s {x : List Nat} : tyZ (.d (.str x)) h = some .str := id rfl
theorem ty_t {x : List D} : tyZ (.d (.tup x)) h = some .tup := id rfl
def frzO (i k : Nat) (s : ZS) : Option ZO → ZH → OutS
 | some (.dl xs), h => .nx (s.set i (some (.d (.lst xs)))) (h.set k .gone)
 | _, _ => .bad
def frzS (i : Nat) (s : ZS) : Option Z → ZH → OutS
 | some (.r k), h => frzO i k s h[k]? h
 | _, _ => .bad
theorem frzO_dl {i k : Nat} {xs : List D} : frzO i k s (some (.dl xs)) h = .nx (s.set i (some (.d (.lst xs)))) (h.set k .gone) := id rfl
theorem frzS_r {i k : Nat} : frzS i s (some (.r k)) h = frzO i k s h[k]? h := id rfl
theorem frzAt_ok {i : Nat} : frzAt i s h = frzS i s (slotZ i s) h := by
 unfold frzAt slotZ frzS frzO
 cases s[i]? with
 | none => rfl
 | some o =>
   cases o with
   | none => rfl
   | some z =>
     cases z with
     | r k =>
       dsimp only
       cases h[k]? with
       | none => rfl
       | some q => cases q <;> rfl
     | _ => rfl
theorem sl_l {xs : List D} {lo hi : Option Int} : opSl (.d (.lst xs)) lo hi h = .ok (.d (.lst (cutD xs lo hi))) h := id rfl
theorem cut_pre {α : Type} {xs : List α} {n : Nat} : cutD xs none (some (n : Int)) = xs.take n := by
 unfold cutD
 rw [HT.sIx_none, HT.sIx_nat]
 simp
theorem reach_in : ∀ (f : Nat) (w acc : List Nat) {h : ZH}, (∀ i ∈ w, i ∈ acc) → reach h f w acc = acc
 | 0, _, _, _, _ => by unfold reach; rfl
 | f + 1, [], _, _, _ => by unfold reach; rfl
 | f + 1, i :: w, acc, h, k => by
   unfold reach
   rw [if_pos (by simpa using k i List.mem_cons_self)]
   exact reach_in f w acc fun j hj => k j (List.mem_cons_of_mem _ hj)
theorem nodupB_range (n : Nat) : nodupB (List.range n) = true := by
 have H : ∀ l : List Nat, l.Nodup → nodupB l = true := by
   intro l
   induction l with
   | nil => intro _; rfl
   | cons a l ih =>
     intro nd
     obtain ⟨h1, h2⟩ := List.nodup_cons.mp nd
     unfold nodupB
     simp [h1, ih h2]
 exact H _ List.nodup_range
theorem idx_range {n i : Nat} (h : i < n) : (List.range n).idxOf i = i := by
 have hm : i ∈ List.range n := List.mem_range.mpr h
 have h1 := idx_get hm
 have h2 : (List.range n)[(List.range n).idxOf i]? = some ((List.range n).idxOf i) := by
   have := List.idxOf_lt_length_of_mem hm
   rw [List.getElem?_eq_getElem this, List.getElem_range]
 rw [h1] at h2
 exact (Option.some.inj h2).symm
theorem renZ_in {n : Nat} {z : Z} (h : ∀ i ∈ refsZ z, i < n) : renZ (List.range n) z = z := by
 cases z with
 | r i => show Z.r _ = _; rw [idx_range (h i (by simp [refsZ]))]
 | _ => rfl
theorem renZs_in {n : Nat} : ∀ {zs : List Z}, (∀ i ∈ zs.flatMap refsZ, i < n) → zs.map (renZ (List.range n)) = zs
 | [], _ => rfl
 | z :: zs, h => by
   rw [List.map_cons, renZ_in fun i hi => h i (by rw [List.flatMap_cons]; exact List.mem_append_left _ hi), renZs_in fun i hi => h i (by rw [List.flatMap_cons]; exact List.mem_append_right _ hi)]
theorem renF_in {n : Nat} : ∀ {fs : List (Nat × Z)}, (∀ i ∈ fs.flatMap (fun p => refsZ p.2), i < n) → fs.map (fun p => (p.1, renZ (List.range n) p.2)) = fs
 | [], _ => rfl
 | z :: zs, h => by
   rw [List.map_cons, renZ_in fun i hi => h i (by rw [List.flatMap_cons]; exact List.mem_append_left _ hi), renF_in fun i hi => h i (by rw [List.flatMap_cons]; exact List.mem_append_right _ hi)]
theorem renO_in {n : Nat} {o : ZO} (h : ∀ i ∈ refsO o, i < n) : renO (List.range n) o = o := by
 cases o with
 | zl zs => show ZO.zl _ = _; rw [renZs_in h]
 | ins c fs => show ZO.ins c _ = _; rw [renF_in h]
 | _ => rfl
theorem selH_range {n : Nat} (hn : n ≤ h.length) (hr : ∀ i ∈ refsP (h.take n), i < n) : selH (List.range n) h = h.take n := by
 unfold selH
 refine List.ext_getElem (by simp; omega) fun i h1 h2 => ?_
 have hi : i < h.length := by simp at h2; omega
 have e : h.getD i .gone = h[i] := by simp [List.getD_eq_getElem?_getD, List.getElem?_eq_getElem hi]
 simp only [List.getElem_map, List.getElem_range, e, List.getElem_take]
 refine renO_in fun j hj => hr j ?_
 unfold refsP
 exact List.mem_flatMap.mpr ⟨h[i], List.mem_take_iff_getElem.mpr ⟨i, by simp at h2; omega, rfl⟩, hj⟩
def gcIn (n : Nat) (roots : List Nat) (h : ZH) : Bool := decide (n ≤ h.length) && roots.all (fun i => decide (i < n)) && (refsP (h.take n)).all fun i => decide (i < n)
theorem gcIn_ok {n : Nat} {roots : List Nat} (k : gcIn n roots h = true) : gcFp n roots h = List.range n ∧ gcOk n roots h (List.range n) = true ∧ selH (List.range n) h = h.take n ∧ ∀ i ∈ roots, i < n := by
 unfold gcIn at k
 simp only [Bool.and_eq_true, decide_eq_true_eq, List.all_eq_true] at k
 obtain ⟨⟨k1, k2⟩, k3⟩ := k
 refine ⟨?_, ?_, selH_range k1 k3, k2⟩
 · unfold gcFp
   refine reach_in _ _ _ fun i hi => List.mem_range.mpr ?_
   rcases List.mem_append.mp hi with hi | hi
   · exact k3 i hi
   · exact k2 i hi
 · unfold gcOk
   simp only [Bool.and_eq_true, decide_eq_true_eq, List.all_eq_true, nodupB_range]
   refine ⟨⟨⟨by rw [List.take_of_length_le (by simp)], fun i hi => by simpa using k2 i hi⟩, fun i hi => ⟨by have := List.mem_range.mp hi; omega, fun j hj => ?_⟩⟩, trivial⟩
   have hi' := List.mem_range.mp hi
   have e : h.getD i .gone = h[i] := by simp [List.getD_eq_getElem?_getD, List.getElem?_eq_getElem (show i < h.length by omega)]
   rw [e] at hj
   have := k3 j (by unfold refsP; exact List.mem_flatMap.mpr ⟨h[i], List.mem_take_iff_getElem.mpr ⟨i, by omega, rfl⟩, hj⟩)
   simpa using this
theorem gc_rt {n : Nat} {z : Z} (k : gcIn n (refsZ z) h = true) : gcS n (.rt z h) = .rt z (h.take n) := by
 obtain ⟨a, b, c, d⟩ := gcIn_ok k
 unfold gcS
 dsimp only
 rw [a, if_pos b, c, renZ_in d]
theorem renS_in {n : Nat} (d : ∀ i ∈ refsS s, i < n) : renS (List.range n) s = s := by
 unfold renS
 induction s with
 | nil => rfl
 | cons o s ih =>
   unfold refsS at d
   rw [List.flatMap_cons] at d
   rw [List.map_cons, ih fun i hi => d i (List.mem_append_right _ hi)]
   cases o with
   | none => rfl
   | some z => show some (renZ _ z) :: s = _; rw [renZ_in fun i hi => d i (List.mem_append_left _ hi)]
theorem gc_nx {n : Nat} (k : gcIn n (refsS s) h = true) : gcS n (.nx s h) = .nx s (h.take n) := by
 obtain ⟨a, b, c, d⟩ := gcIn_ok k
 unfold gcS
 dsimp only
 rw [a, if_pos b, c, renS_in d]
theorem gc_exc {n : Nat} {x : ZX} (k : gcIn n (refsS s) h = true) : gcS n (.exc x s h) = .exc x s (h.take n) := by
 obtain ⟨a, b, c, d⟩ := gcIn_ok k
 unfold gcS
 dsimp only
 rw [a, if_pos b, c, renS_in d]
theorem gc_new {x : List D} {t : ZH} : gcS 0 (.rt (.r 0) (.dl x :: t)) = .rt (.r 0) [.dl x] := by rfl
theorem endK_nx {is : List Nat} {n : Nat} : (K.endK is n).nx s h = (gcS n (.nx (wipeAll is s) h)).wp K := by with_unfolding_all exact (id rfl)
theorem endK_rt {is : List Nat} {n : Nat} {z : Z} : (K.endK is n).rt z h = (gcS n (.rt z h)).wp K := by with_unfolding_all exact (id rfl)
theorem endK_ex {is : List Nat} {n : Nat} {x : ZX} : (K.endK is n).ex x s h = (gcS n (.exc x (wipeAll is s) h)).wp K := by with_unfolding_all exact (id rfl)
theorem tryA_rt {hit : Hit} {i : Nat} {su : Addr → ZX → DS} {z : Z} : (K.tryA hit i su).rt z h = K.rt z h := id rfl
theorem turn_nx {gd : ZH → Prop} {I : ZS → ZH → Prop} : (K.turn gd I).nx s h = (gd h ∧ I s h) := id rfl
theorem turn_rt {gd : ZH → Prop} {I : ZS → ZH → Prop} {z : Z} : (K.turn gd I).rt z h = K.rt z h := id rfl
theorem turn_ex {gd : ZH → Prop} {I : ZS → ZH → Prop} {x : ZX} : (K.turn gd I).ex x s h = K.ex x s h := id rfl
theorem wipe_0 : wipeAll [] s = s := id rfl
theorem wipe_s {i : Nat} {is : List Nat} : wipeAll (i :: is) s = wipeAll is (s.set i none) := id rfl
theorem guard_n {xs : List Z} : ZIt.guard ⟨xs, none⟩ h = True := id rfl
theorem rngW {t : DG} {d : DS} {gd : ZH → Prop} {n : Nat} (I : Nat → ZS → ZH → Prop) (start : I 0 s h)
   (step : ∀ i s h, i < n → I i s h → (t (.d (.int i)) s h).wp ⟨fun s1 h1 => (d s1 h1).wp (K.turn gd (I (i + 1))), K.rt, K.bk, K.ct, K.ex⟩)
   (fin : ∀ s h, I n s h → K.nx s h) : (forLoop gd t d (rangeZ 0 n) s h).wp K := by
 with_unfolding_all
   refine forW I start (fun i z s h hz k => ?_) fun s h k => fin s h (by rw [rangeZ_len] at k; exact k)
   obtain ⟨hl, rfl⟩ := rangeZ_get hz
   rw [Int.zero_add]
   exact step i s h hl k
theorem lstW {t : DG} {d : DS} {gd : ZH → Prop} {xs : List D} (I : Nat → ZS → ZH → Prop) (start : I 0 s h)
   (step : ∀ i (x : D) s h, xs[i]? = some x → I i s h → (t (.d x) s h).wp ⟨fun s1 h1 => (d s1 h1).wp (K.turn gd (I (i + 1))), K.rt, K.bk, K.ct, K.ex⟩)
   (fin : ∀ s h, I xs.length s h → K.nx s h) : (forLoop gd t d (xs.map .d) s h).wp K := by
 with_unfolding_all
   refine forW I start (fun i z s h hz k => ?_) fun s h k => fin s h (by rw [List.length_map] at k; exact k)
   rw [List.getElem?_map] at hz
   cases e : xs[i]? with
   | none => rw [e] at hz; cases hz
   | some x =>
     rw [e] at hz
     cases hz
     exact step i x s h e k
theorem callW_eq {M : Sem} {xs : List D} {x : D} (e : M (xs.map .d) [] = .ok (.d x) []) (q : QZ (.d x) h) : (callZ M (xs.map .d) h).wp QZ E := by
 with_unfolding_all
   rw [callZ_d e]; exact q
end
end Zl
end
section
namespace Zl
open PySem PySem.Spec PyProof.Rows L2
mutual
def plB : D → Bool
 | .non => true
 | .int _ => true
 | .str _ => true
 | .tup xs => plBs xs
 | .lst xs => plBs xs
 | _ => false
def plBs : List D → Bool
 | [] => true
 | x :: xs => plB x && plBs xs
end
mutual
def dep : D → Nat
 | .tup xs => deps xs + 1
 | .lst xs => deps xs + 1
 | _ => 0
def deps : List D → Nat
 | [] => 0
 | x :: xs => max (dep x) (deps xs)
end
mutual
theorem pl_py : ∀ (d : D), plB d = true → ∃ p, d.py = some p ∧ p.depth = dep d
 | .non, _ => ⟨.none, by unfold D.py; rfl, by simp [PyData.depth, dep]⟩
 | .int i, _ => ⟨.int i, by unfold D.py; rfl, by simp [PyData.depth, dep]⟩
 | .str s, _ => ⟨.str (mkS s), by unfold D.py; rfl, by simp [PyData.depth, dep]⟩
 | .tup xs, h => by
   obtain ⟨ps, e, k⟩ := pls_py xs (by unfold plB at h; exact h)
   exact ⟨.tuple ps, by unfold D.py; rw [e]; rfl, by simp [PyData.depth, dep, k]⟩
 | .lst xs, h => by
   obtain ⟨ps, e, k⟩ := pls_py xs (by unfold plB at h; exact h)
   exact ⟨.list ps, by unfold D.py; rw [e]; rfl, by simp [PyData.depth, dep, k]⟩
 | .bl _, h => by unfold plB at h; cases h
 | .scr _, h => by unfold plB at h; cases h
 | .obj _ _, h => by unfold plB at h; cases h
 | .dic _ _, h => by unfold plB at h; cases h
 | .dit _ _, h => by unfold plB at h; cases h
 | .cls _, h => by unfold plB at h; cases h
theorem pls_py : ∀ (ds : List D), plBs ds = true → ∃ ps, D.pys ds = some ps ∧ PyData.depthAll ps = deps ds
 | [], _ => ⟨[], by unfold D.pys; rfl, by simp [PyData.depthAll, deps]⟩
 | x :: xs, h => by
   unfold plBs at h
   rw [Bool.and_eq_true] at h
   obtain ⟨p, e1, k1⟩ := pl_py x h.1
   obtain ⟨ps, e2, k2⟩ := pls_py xs h.2
   exact ⟨p :: ps, by unfold D.pys; rw [e1, e2]; rfl, by simp [PyData.depthAll, deps, k1, k2]⟩
end
mutual
theorem pl_eqv : ∀ (a b : D) (p q : PyData), plB a = true → plB b = true → a.py = some p → b.py = some q → (PyData.eqv p q = true ↔ a = b)
 | .non, b, p, q, _, hb, e1, e2 => by
   unfold D.py at e1; cases e1
   cases b <;> (unfold plB at hb; first | cases hb | skip) <;> (unfold D.py at e2) <;> (first | (cases e2; simp [PyData.eqv]) | (obtain ⟨ps, _, rfl⟩ := Option.map_eq_some_iff.mp e2; simp [PyData.eqv]))
 | .int i, b, p, q, _, hb, e1, e2 => by
   unfold D.py at e1; cases e1
   cases b <;> (unfold plB at hb; first | cases hb | skip) <;> (unfold D.py at e2) <;> (first | (cases e2; simp [PyData.eqv]) | (obtain ⟨ps, _, rfl⟩ := Option.map_eq_some_iff.mp e2; simp [PyData.eqv]))
 | .str s, b, p, q, _, hb, e1, e2 => by
   unfold D.py at e1; cases e1
   cases b <;> (unfold plB at hb; first | cases hb | skip) <;> (unfold D.py at e2) <;> (first | (cases e2; simp [PyData.eqv]) | (obtain ⟨ps, _, rfl⟩ := Option.map_eq_some_iff.mp e2; simp [PyData.eqv]))
 | .tup xs, b, p, q, ha, hb, e1, e2 => by
   unfold plB at ha
   unfold D.py at e1
   obtain ⟨ps, f1, rfl⟩ := Option.map_eq_some_iff.mp e1
   cases b <;> (unfold plB at hb; first | cases hb | skip) <;> (unfold D.py at e2) <;> (first | (cases e2; simp [PyData.eqv]) | (obtain ⟨qs, f2, rfl⟩ := Option.map_eq_some_iff.mp e2; simp [PyData.eqv]))
   exact pls_eqv xs _ ps qs ha hb f1 f2
 | .lst xs, b, p, q, ha, hb, e1, e2 => by
   unfold plB at ha
   unfold D.py at e1
   obtain ⟨ps, f1, rfl⟩ := Option.map_eq_some_iff.mp e1
   cases b <;> (unfold plB at hb; first | cases hb | skip) <;> (unfold D.py at e2) <;> (first | (cases e2; simp [PyData.eqv]) | (obtain ⟨qs, f2, rfl⟩ := Option.map_eq_some_iff.mp e2; simp [PyData.eqv]))
   exact pls_eqv xs _ ps qs ha hb f1 f2
 | .bl _, _, _, _, h, _, _, _ => by unfold plB at h; cases h
 | .scr _, _, _, _, h, _, _, _ => by unfold plB at h; cases h
 | .obj _ _, _, _, _, h, _, _, _ => by unfold plB at h; cases h
 | .dic _ _, _, _, _, h, _, _, _ => by unfold plB at h; cases h
 | .dit _ _, _, _, _, h, _, _, _ => by unfold plB at h; cases h
 | .cls _, _, _, _, h, _, _, _ => by unfold plB at h; cases h
theorem pls_eqv : ∀ (as bs : List D) (ps qs : List PyData), plBs as = true → plBs bs = true → D.pys as = some ps → D.pys bs = some qs → (PyData.eqvAll ps qs = true ↔ as = bs)
 | [], bs, ps, qs, _, hb, e1, e2 => by
   unfold D.pys at e1; cases e1
   cases bs with
   | nil => unfold D.pys at e2; cases e2; simp [PyData.eqvAll]
   | cons b bs =>
     unfold D.pys at e2
     obtain ⟨q, f1, e2⟩ := Option.bind_eq_some_iff.mp e2
     obtain ⟨qs', f2, e2⟩ := Option.bind_eq_some_iff.mp e2
     cases e2
     simp [PyData.eqvAll]
 | a :: as, bs, ps, qs, ha, hb, e1, e2 => by
   unfold plBs at ha
   rw [Bool.and_eq_true] at ha
   unfold D.pys at e1
   obtain ⟨p, g1, e1⟩ := Option.bind_eq_some_iff.mp e1
   obtain ⟨ps', g2, e1⟩ := Option.bind_eq_some_iff.mp e1
   cases e1
   cases bs with
   | nil => unfold D.pys at e2; cases e2; simp [PyData.eqvAll]
   | cons b bs =>
     unfold plBs at hb
     rw [Bool.and_eq_true] at hb
     unfold D.pys at e2
     obtain ⟨q, f1, e2⟩ := Option.bind_eq_some_iff.mp e2
     obtain ⟨qs', f2, e2⟩ := Option.bind_eq_some_iff.mp e2
     cases e2
     rw [PyData.eqvAll, Bool.and_eq_true, pl_eqv a b p q ha.1 hb.1 g1 f1, pls_eqv as bs ps' qs' ha.2 hb.2 g2 f2, List.cons.injEq]
end
open Classical in
theorem peq_pl {a b : D} (ha : plB a = true) (hb : plB b = true) (da : dep a ≤ 64) (db : dep b ≤ 64) : peq a b = some (decide (a = b)) := by
 obtain ⟨p, e1, k1⟩ := pl_py a ha
 obtain ⟨q, e2, k2⟩ := pl_py b hb
 unfold peq
 rw [e1, e2]
 dsimp only
 rw [if_pos ⟨by omega, by omega⟩]
 have := pl_eqv a b p q ha hb e1 e2
 congr 1
 rw [Bool.eq_iff_iff, this, decide_eq_true_iff]
theorem peq_ss {a b : List Nat} : peq (.str a) (.str b) = some (decide (a = b)) := by
 rw [peq_pl (by unfold plB; rfl) (by unfold plB; rfl) (by simp [dep]) (by simp [dep])]
 simp
theorem at_nat {xs : List D} {n : Nat} : atD xs (n : Int) = xs[n]? := by
 unfold atD
 by_cases h : n < xs.length
 · have : ixN xs.length (n : Int) = some n := by
     unfold ixN
     rw [if_pos (by omega), if_pos (by omega)]
     simp
   rw [this]
   rfl
 · have : ixN xs.length (n : Int) = none := by
     unfold ixN
     rw [if_pos (by omega), if_neg (by omega)]
   rw [this, List.getElem?_eq_none (by omega)]
   rfl
theorem at_0 {xs : List D} : atD xs 0 = xs[0]? := at_nat (n := 0)
theorem at_1 {xs : List D} : atD xs 1 = xs[1]? := at_nat (n := 1)
end Zl
end
section
namespace Zl
open PySem PySem.Spec PyProof.Rows L2
open TL
section
variable {QZ : Z → ZH → Prop} {QB : Bool → ZH → Prop} {QA : List Z → ZH → Prop} {E : ZX → ZH → Prop} {K : KS} {s : ZS} {h : ZH} {da db dc : DE} {ds : DA} {d d' : DS} {ta tb : DT}
theorem wp_make {own : Bool} {c : Nat} {M : Sem} : (dMake own c M ds s h).wp QZ E = (ds s h).wp (fun zs h1 => (clsFlds c).isEmpty = false ∧ (callZ M (.r h1.length :: zs) (h1 ++ [.ins c []])).wp (fun z h2 => z = .d .non ∧ (madeZ own c h1.length h2).wp QZ E)
   (fun x h2 => if trimOk h1.length (h2.set h1.length .gone) = true then E x ((h2.set h1.length .gone).take h1.length) else E x h2)) E := by
 with_unfolding_all
   unfold dMake
   rw [wp_bnd]
   refine wp_fun fun zs h1 => ?_
   cases e : (clsFlds c).isEmpty with
   | true => simp [wp_bad]
   | false =>
     simp only [Bool.false_eq_true, if_false]
     cases k : callZ M (.r h1.length :: zs) (h1 ++ [.ins c []]) with
     | bad => simp [wp_bad]
     | exc x h2 =>
       simp only [wp_exc, true_and]
       split <;> simp [wp_exc]
     | ok z h2 =>
       rw [wp_ok]
       cases z with
       | d x => cases x <;> simp [wp_bad]
       | r i => simp [wp_bad]
       | e a => simp [wp_bad]
end
end Zl
end
section
namespace Zl
open PySem PySem.Spec PyProof.Rows L2
section
variable {h : ZH}
def setFO (f : Nat) (y : Z) (i : Nat) (s : ZS) : Option ZO → ZH → OutS
 | some (.ins c fs), h => if (clsFlds c).contains f && decide (fs.length < 1000) then .nx s (h.set i (.ins c (putN f y fs))) else .bad
 | _, _ => .bad
theorem set_r {f : Nat} {y : Z} {i : Nat} {s : ZS} : setFld f y (.r i) s h = setFO f y i s h[i]? h := by
 show (match h[i]? with
   | some (.ins c fs) => if (clsFlds c).contains f && decide (fs.length < 1000) then OutS.nx s (h.set i (.ins c (putN f y fs))) else .bad
   | _ => .bad) = _
 cases h[i]? with
 | none => rfl
 | some o => cases o <;> rfl
theorem setFO_i {f c : Nat} {y : Z} {i : Nat} {s : ZS} {fs : List (Nat × Z)} (hc : (clsFlds c).contains f = true) : setFO f y i s (some (.ins c fs)) h = if fs.length < 1000 then .nx s (h.set i (.ins c (putN f y fs))) else .bad := by
 show (if ((clsFlds c).contains f && decide (fs.length < 1000)) = true then _ else _) = _
 rw [hc, Bool.true_and]
 by_cases q : fs.length < 1000
 · rw [if_pos q, if_pos (decide_eq_true q)]
 · rw [if_neg q, if_neg (fun z => q (of_decide_eq_true z))]
theorem putN_0 {f : Nat} {z : Z} : putN f z [] = [(f, z)] := id rfl
theorem putN_s {f : Nat} {z : Z} {p : Nat × Z} {fs : List (Nat × Z)} : putN f z (p :: fs) = if p.1 = f then (f, z) :: fs else p :: putN f z fs := id rfl
def fldO (f : Nat) : Option ZO → Option Z
 | some (.ins _ fs) => fs.lookup f
 | _ => none
theorem fld_r {f i : Nat} : fldZ f (.r i) h = fldO f h[i]? := by
 show (match h[i]? with
   | some (.ins _ fs) => fs.lookup f
   | _ => none) = _
 cases h[i]? with
 | none => rfl
 | some o => cases o <;> rfl
theorem cf_30_34 : (clsFlds cFormulas).contains f_starts = true := by decide
theorem cf_30_35 : (clsFlds cFormulas).contains f_numbers = true := by decide
theorem ce_30 : (clsFlds cFormulas).isEmpty = false := by decide
end
end Zl
end
section
namespace Zl
open PySem PySem.Spec PyProof.Rows L2
def chrs (t : List Nat) : List Z := t.map fun c => .d (.str [c])
def iStrI (d : DE) : DI := fun s h => (d s h).bnd fun z h1 => match z with
 | .d (.str t) => .ok ⟨chrs t, none⟩ h1
 | _ => .bad
def iAny (d : DE) : DI := fun s h => (d s h).bnd fun z h1 => match z with
 | .d (.str t) => .ok ⟨chrs t, none⟩ h1
 | .d (.tup xs) => .ok ⟨xs.map .d, none⟩ h1
 | .d (.lst xs) => .ok ⟨xs.map .d, none⟩ h1
 | .r i => match h1[i]? with
   | some (.dl xs) => .ok ⟨xs.map .d, some (i, .dl xs)⟩ h1
   | some (.zl zs) => .ok ⟨zs, some (i, .zl zs)⟩ h1
   | _ => .bad
 | _ => .bad
section
variable {g : G} {F : Fr} {X : Cx} {W : WX} {e : Expr} {da : DE}
theorem zi_str {tg : Expr} (he : ZE g F X W e da) : ZI g F X W tg e (iStrI da) := by
 refine PI.imp (pi_str he) fun σ H R ⟨ρ, zσ, zh, RH, RS, p⟩ => ?_
 refine ⟨ρ, zσ, zh, RH, RS, Post.bndI p fun ρ1 z zh1 v H1 e1 R1 rz p1 => ?_⟩
 split at p1
 · rename_i t
   obtain ⟨rfl, ok⟩ := rz_str.mp rz
   refine ⟨_, rfl, p1 ρ1 _ H1 Ext.refl R1 trivial ?_⟩
   intro F2 ρ2 zh2 H2 pre stb R2 _
   have sz : (mkS t).cps.size = t.length := by simp [mkS]
   refine ⟨fun k z hz => ?_, by show _ ≤ _; rw [sz]; simp [chrs]⟩
   unfold chrs at hz
   rw [List.getElem?_map] at hz
   cases ht : t[k]? with
   | none => rw [ht] at hz; cases hz
   | some c =>
     rw [ht] at hz
     cases hz
     have hk := (List.getElem?_eq_some_iff.mp ht).1
     refine ⟨by show _ < _; rw [sz]; exact hk, fun x H3 ⟨e3, c', hc, ex⟩ => ?_⟩
     subst e3; subst ex
     have : t[k]? = some c' := by simpa [mkS] using hc
     rw [ht] at this; cases this
     exact ⟨Ext.refl, R2, rz_str.mpr ⟨rfl, fun y hy => by rw [List.mem_singleton.mp hy]; exact ok.1 c (List.mem_of_getElem? ht), by rw [sizeLine_eq]; simp⟩⟩
 · exact p1.elim
theorem PI.or {tg : Expr} {t t' : TI} (h : PI X tg e t) (h' : PI X tg e t') : PI X tg e (fun σ H R => t σ H R ∨ t' σ H R) := ⟨fun pins s σ H R I q => q.elim (h.run pins s σ H R I) (h'.run pins s σ H R I)⟩
theorem zi_any {tg : Expr} (hK : X.K = g.K) (he : ZE g F X W e da) : ZI g F X W tg e (iAny da) := by
 refine PI.imp (PI.or (zi_str he) (PI.or (zi_tup hK he) (zi_list hK he))) fun σ H R ⟨ρ, zσ, zh, RH, RS, p⟩ => ?_
 cases k : da zσ zh with
 | bad => unfold iAny at p; rw [k] at p; exact p.elim
 | exc x h' => exact .inl ⟨ρ, zσ, zh, RH, RS, by unfold iAny at p; rw [k] at p; unfold iStrI; rw [k]; exact p⟩
 | ok z h1 =>
   unfold iAny at p
   rw [k] at p
   cases z with
   | d x =>
     cases x with
     | str t => exact .inl ⟨ρ, zσ, zh, RH, RS, by unfold iStrI; rw [k]; exact p⟩
     | tup t => exact .inr (.inl ⟨ρ, zσ, zh, RH, RS, by unfold iTupI; rw [k]; exact p⟩)
     | lst t => exact .inr (.inr ⟨ρ, zσ, zh, RH, RS, by unfold iSeq; rw [k]; exact p⟩)
     | _ => exact p.elim
   | r i => exact .inr (.inr ⟨ρ, zσ, zh, RH, RS, by unfold iSeq; rw [k]; exact p⟩)
   | e a => exact p.elim
end
section
variable {E : ZX → ZH → Prop} {s : ZS} {h : ZH} {da : DE}
def itAny (z : Z) (h : ZH) : Option ZIt := match z with
 | .d (.str t) => some ⟨chrs t, none⟩
 | .d (.tup xs) => some ⟨xs.map .d, none⟩
 | .d (.lst xs) => some ⟨xs.map .d, none⟩
 | .r i => itO i h[i]?
 | _ => none
theorem itAny_t {t : List D} : itAny (.d (.tup t)) h = some ⟨t.map .d, none⟩ := id rfl
theorem itAny_r {i : Nat} : itAny (.r i) h = itO i h[i]? := id rfl
theorem wp_iany {Q : ZIt → ZH → Prop} : (iAny da s h).wp Q E = (da s h).wp (fun z h1 => optP (itAny z h1) fun it => Q it h1) E := by
 with_unfolding_all
   unfold iAny
   rw [wp_bnd]
   refine wp_fun fun z h1 => ?_
   cases z with
   | d x => cases x <;> rfl
   | r i =>
     rw [itAny_r]
     dsimp only
     cases h1[i]? with
     | none => rfl
     | some o => cases o <;> rfl
   | e a => rfl
end
theorem nc_2 : ((2 : Nat) : Int) = 2 := id rfl
end Zl
end
section
namespace Zl
open PySem PySem.Spec PyProof.Rows L2
section
variable {g : G} {U : Addr → Prop} {H : Hp}
end
section
variable {g : G} {F : Fr} {X : Cx} {W : WX} {a b c e o : Expr} {es : List Expr} {da db dc : DE} {d : DA} {pos apos cpos : Pos}
end
end Zl
end
section
namespace Zl
open PySem PySem.Spec PyProof.Rows L2
open TL
section
variable {g : G} {F : Fr} {X : Cx} {W : WX} {a b c e o : Expr} {es : List Expr} {da db dc : DE} {d : DA} {pos apos cpos : Pos} {st : Stmt} {sts : List Stmt}
theorem z_neg {n : Int} {j : Nat} {p1 p2 : Pos} : ZE g F X W (.UnaryOp .USub (.Constant (.int n) j p1) p2) (dC (.int (-n))) :=
 PE.imp (pe_un un_neg pe_int) fun σ H Q ⟨ρ, zσ, zh, RH, RS, p⟩ => ⟨n, rfl, Post.done RH p (rz_int.mpr rfl)⟩
end
end Zl
end
section
namespace Zl
open PySem PySem.Spec PyProof.Rows L2
theorem cellsFrom_app : ∀ (names : List (Str × NameKind)) (n : Nat) (acc : List (Str × Addr)), cellsFrom n names acc = cellsFrom n names [] ++ acc
 | [], _, _ => rfl
 | (name, kind) :: r, n, acc => by
   unfold cellsFrom
   split
   · rw [cellsFrom_app r (n + 1) ((name, n) :: acc), cellsFrom_app r (n + 1) [(name, n)], List.append_assoc]
     rfl
   · exact cellsFrom_app r n acc
section
variable {M : Model} {A : Around} {E : Value → Shared → Prop} {s s0 : Shared}
theorem bindParamsX {own clo : List (Str × Addr)} {env : Env} (hE : env.cells = own ++ clo) (f : Str × Value → PUnit → PySem.Sem (ForInStep PUnit)) (hf : ∀ n v u, f (n, v) u = (do storeName env n v; pure (.yield ⟨⟩))) (hk : env.scope.kind = .function) :
   ∀ (bs : List (Str × Value)) (m cm : Str → Option Value) (s : Shared) (Q : PUnit → Shared → Prop), InCallC s0 env.locals m own cm s →
     (∀ x ∈ bs, env.kindOf x.1 = some .local ∨ (env.kindOf x.1 = some .cell ∧ ∃ c, own.lookup x.1 = some c)) →
     (∀ s', InCallC s0 env.locals (bindL env.kindOf bs m) own (bindC env.kindOf bs cm) s' → Q ⟨⟩ s') → wpAny M A (forIn bs ⟨⟩ f) Q E s
 | [], m, cm, s, Q, x, _, h => by
   rw [List.forIn_nil]
   exact wpAny_pure (h s x)
 | (n, v) :: r, m, cm, s, Q, x, hkind, h => by
   rw [List.forIn_cons, hf]
   have hr := fun y (hy : y ∈ r) => hkind y (List.mem_cons_of_mem _ hy)
   have bump : ∀ {q : Addr}, s0.heap.objs.size ≤ q → ∀ h', Heap.SameBut q s.heap h' → (∀ t1, ∃ h2 t2, ({ s with heap := h', toks := t1 } : Shared) = { s0 with heap := h2, toks := t2 }) ∧ ∀ b o, s0.heap.get? b = some o → h'.get? b = some o := fun {q} lq h' hs => by
     obtain ⟨h1, tk, rfl⟩ := x.toInCall.same
     exact ⟨fun _ => ⟨h', _, rfl⟩, fun b o e => hs.extBut b o (Nat.ne_of_lt (Nat.lt_of_lt_of_le (Heap.lt_size e) lq)) (x.toInCall.keep b o e)⟩
   rcases hkind (n, v) List.mem_cons_self with hl | ⟨hl, c, hc⟩
   · refine wpAny_bind (wpAny_bind (wpAny_storeName_local hl x.toInCall.ns (fun h' hn hs => wpAny_pure (bindParamsX hE f hf hk r _ _ _ Q ⟨⟨(bump x.toInCall.fresh h' hs).1 _, hn, (bump x.toInCall.fresh h' hs).2, x.toInCall.fresh⟩, fun k c hc => (x.cell k c hc).sameBut hs (Nat.ne_of_gt (x.above k c (mem_of_lookup hc))), x.apart, x.above⟩ hr fun s'' x'' => h s'' ?_)) (by rw [hk]; rfl)))
     unfold bindL bindC
     rw [if_pos hl, if_pos hl]
     exact x''
   · have hnl : ¬ env.kindOf n = some .local := by rw [hl]; decide
     have hLc : env.locals < c := x.above n c (mem_of_lookup hc)
     have hEc : env.cells.lookup n = some c := by rw [hE, List.lookup_append, hc]; rfl
     have lc : s0.heap.objs.size ≤ c := Nat.le_of_lt (Nat.lt_of_le_of_lt x.toInCall.fresh hLc)
     refine wpAny_bind (wpAny_bind (wpAny_storeName_cell hk hl hEc (x.cell n c hc) fun h' hc' hs => wpAny_pure (bindParamsX hE f hf hk r _ (fun y => if y = n then some v else cm y) _ Q ⟨⟨(bump lc h' hs).1 _, x.toInCall.ns.sameBut hs (Nat.ne_of_lt hLc), (bump lc h' hs).2, x.toInCall.fresh⟩, fun k c' hk' => ?_, x.apart, x.above⟩ hr fun s'' x'' => h s'' ?_)))
     · by_cases hkn : k = n
       · subst hkn
         rw [hc] at hk'
         cases hk'
         simpa using hc'
       · rw [if_neg hkn]
         exact (x.cell k c' hk').sameBut hs fun e => hkn (name_of_addr x.apart (mem_of_lookup hk') (e ▸ mem_of_lookup hc))
     · unfold bindL bindC
       rw [if_neg hnl, if_neg hnl]
       exact x''
theorem newEnvX {scope : Scope} {globals : Addr} {clo : List (Str × Addr)} {bs : List (Str × Value)} {qual : Str} {func : Option Addr} {code : Value} {builtins : Addr} {Q : Env → Shared → Prop}
   (hk : scope.kind = .function)
   (hkind : ∀ x ∈ bs, scope.names.lookup x.1 = some .local ∨ (scope.names.lookup x.1 = some .cell ∧ ∃ c, (cellsFrom (s.heap.objs.size + 1) scope.names []).lookup x.1 = some c))
   (hQ : ∀ env, env = newEnv scope s.heap.objs.size globals (cellsFrom (s.heap.objs.size + 1) scope.names [] ++ clo) qual func code none builtins →
     ∀ s', InCallC s env.locals (bindL env.kindOf bs fun _ => none) (cellsFrom (s.heap.objs.size + 1) scope.names []) (bindC env.kindOf bs fun _ => none) s' → Q env s') :
   wpAny M A (newFunctionEnv scope globals clo bs qual func code none builtins) Q E s := by
 simp only [newFunctionEnv, Option.isSome_none, Bool.false_eq_true, if_false]
 refine wpAny_bind (wpAny_alloc ?_)
 refine wpAny_bind (wpAny_layCells _ (fun name kind cells => by cases hkc : kind == NameKind.cell <;> simp [hkc]) _ _ _ _ ?_)
 have ok := cellsFrom_ok scope.names (s.heap.push { cls := .type "frame", data := .dict #[] }) (s.heap.objs.size + 1) [] ⟨fun _ _ hm => (nomatch hm), List.Pairwise.nil⟩ (by rw [Heap.size_push]; exact Nat.le_refl _)
 rw [Heap.size_push] at ok
 rw [show ({ s with heap := s.heap.push { cls := .type "frame", data := .dict #[] } } : Shared).heap.objs.size = s.heap.objs.size + 1 from Heap.size_push .., cellsFrom_app]
 refine wpAny_bind (bindParamsX (s0 := s) (own := cellsFrom (s.heap.objs.size + 1) scope.names []) (clo := clo) (env := newEnv scope s.heap.objs.size globals (cellsFrom (s.heap.objs.size + 1) scope.names [] ++ clo) qual func code none builtins)
   rfl _ (fun _ _ _ => rfl) hk bs (fun _ => none) (fun _ => none) _ _
   ⟨⟨⟨_, _, rfl⟩, (Heap.Ns.new s.heap (.type "frame")).keeps (pushCells_keeps _ _), fun b o e => pushCells_keeps _ _ b o (Heap.get?_push_of_some _ e), Nat.le_refl _⟩,
     fun n c hc => (ok.empty n c (mem_of_lookup hc)).1, ok.apart, fun n c hm => (ok.empty n c hm).2⟩
   hkind fun s' x => wpAny_pure (hQ _ rfl s' x))
end
structure SupScope (N P : List Str) (sc : Scope) : Prop where
 kind : sc.kind = .function
 co : sc.isCoroutine = false
 gen : sc.isGenerator = false
 nd : N.Nodup
 pre : N.take P.length = P
 par : ∀ x ∈ P, sc.names.lookup x = some .local ∨ sc.names.lookup x = some .cell
 free : ∀ y ∈ sc.names, y.2 = .free → y.1 = ("__class__" : Str)
 ncl : sc.names.lookup ("__class__" : Str) = some .free
 nc : ∀ y ∈ sc.names, y.2 = .cell → y.1 ≠ ("__class__" : Str)
abbrev envS (qual : Str) (scope : Scope) (L f : Addr) (cd : Value) (cc : Addr) : Env := PySem.W.envX qual scope L f cd (cellsFrom (L + 1) scope.names [] ++ [(("__class__" : Str), cc)])
def cxS (P : Program) (w : World) (K : PySem.W.Frag) (mg : Str → Option Value) (base : Heap) (N : List Str) (qual : Str) (scope : Scope) (f : Addr) (cd : Value) (cc : Addr) (A : Around) (outer : List Env) (s : Shared) (H : Hp) (E : XK) : Cx where
 prog := P
 w := w
 K := K
 mg := mg
 base := base
 A := A.deeper (envS qual scope s.heap.objs.size f cd cc)
 N := N
 s_0 := s
 H_0 := H
 env := envS qual scope s.heap.objs.size f cd cc
 outer := outer
 stack := envS qual scope s.heap.objs.size f cd cc :: outer
 ex := []
 calm := true
 fn := fun x => x != ("__class__" : Str)
 pn := []
 xe := fun e s' => wpAny (model P w) (A.deeper (envS qual scope s.heap.objs.size f cd cc)) (leaving (envS qual scope s.heap.objs.size f cd cc) e) (fun _ s'' => L2.CX P w outer H s E e s'') (fun e' s'' => L2.CX P w outer H s E e' s'') s'
theorem lookup_class {l : List (Str × Addr)} {cc : Addr} (h : l.lookup ("__class__" : Str) = none) : (l ++ [(("__class__" : Str), cc)]).lookup ("__class__" : Str) = some cc := by
 rw [List.lookup_append, h]
 simp [List.lookup]
theorem cellsFrom_mem : ∀ {names : List (Str × NameKind)} {n : Nat} {x : Str} {c : Addr}, (x, c) ∈ cellsFrom n names [] → (x, NameKind.cell) ∈ names
 | [], _, _, _, h => by cases h
 | (name, kind) :: r, n, x, c, h => by
   unfold cellsFrom at h
   split at h
   · rename_i hk
     rw [cellsFrom_app] at h
     rcases List.mem_append.mp h with h | h
     · exact List.mem_cons_of_mem _ (cellsFrom_mem h)
     · have e : (x, c) = (name, n) := by simpa using h
       cases e
       have : kind = NameKind.cell := by simpa using hk
       rw [this]
       exact List.mem_cons_self
   · exact List.mem_cons_of_mem _ (cellsFrom_mem h)
section
variable {P : Program} {w : World} {K : PySem.W.Frag} {mg : Str → Option Value} {base : Heap} {N ps : List Str} {qual : Str} {scope : Scope} {f cc D : Addr} {cd : Value} {A : Around} {outer : List Env} {s s1 : Shared} {H : Hp} {E : XK} {us : List Value} {vs : List V}
def ClsCell (K : PySem.W.Frag) (cc D : Addr) : Prop := ∃ cl cld csl, K.lookup cc = some ⟨cl, cld, .cell (some (.ref D)), csl⟩
theorem own_class (S : SupScope N ps scope) {n : Nat} {c : Addr} (m : (("__class__" : Str), c) ∈ cellsFrom n scope.names []) : False := S.nc _ (cellsFrom_mem m) rfl rfl
theorem own_none (S : SupScope N ps scope) (n : Nat) : (cellsFrom n scope.names []).lookup ("__class__" : Str) = none := by
 cases e : (cellsFrom n scope.names []).lookup ("__class__" : Str) with
 | none => rfl
 | some c => exact (own_class S (PySem.mem_of_lookup e)).elim
theorem cell_cases {l : List (Str × Addr)} {y : Str} {c : Addr} (h : (l ++ [(("__class__" : Str), cc)]).lookup y = some c) : l.lookup y = some c ∨ (l.lookup y = none ∧ y = ("__class__" : Str) ∧ c = cc) := by
 rw [List.lookup_append] at h
 cases e : l.lookup y with
 | some c' =>
   rw [e] at h
   exact .inl h
 | none =>
   rw [e] at h
   have h : [(("__class__" : Str), cc)].lookup y = some c := h
   rw [List.lookup_cons] at h
   split at h
   · rename_i hb
     exact .inr ⟨rfl, beq_iff_eq.mp hb, (Option.some.inj h).symm⟩
   · cases h
theorem cells_own {l : List (Str × Addr)} {y : Str} {c : Addr} (e : l.lookup y = some c) : (l ++ [(("__class__" : Str), cc)]).lookup y = some c := by
 rw [List.lookup_append, e]
 rfl
theorem inv_startS (S : SupScope N ps scope) (CC : ClsCell K cc D) (hd : A.handled = none) (e0 : Env0 P w K mg base A outer s H) (hl : vs.length = ps.length) (r : Vals vs us)
   (x : InCallC s s.heap.objs.size (bindL (envS qual scope s.heap.objs.size f cd cc).kindOf (ps.zip us) fun _ => none) (cellsFrom (s.heap.objs.size + 1) scope.names []) (bindC (envS qual scope s.heap.objs.size f cd cc).kindOf (ps.zip us) fun _ => none) s1) :
   Inv (cxS P w K mg base N qual scope f cd cc A outer s H E) [] (L2.start N vs) H s1 := by
 have hpl : ps.length ≤ N.length := by
   have q := congrArg List.length S.pre
   rw [List.length_take] at q
   omega
 obtain ⟨h1, tk, rfl, hk⟩ := x.done
 obtain ⟨cl, cld, csl, lc⟩ := CC
 have bcc := e0.mod.kin _ _ lc
 obtain ⟨scc, hcc⟩ := e0.bs _ _ bcc
 have ltc : cc < s.heap.objs.size := Heap.lt_size scc
 have no : ∀ b : Addr, b ∉ (cxS P w K mg base N qual scope f cd cc A outer s H E).ex := fun b z => absurd (show b ∈ ([] : List Addr) from z) (by simp)
 have ab : ∀ {y : Str} {c : Addr}, (cellsFrom (s.heap.objs.size + 1) scope.names []).lookup y = some c → s.heap.objs.size < c := fun {y c} e => x.above y c (PySem.mem_of_lookup e)
 refine ⟨⟨e0.mod, S.kind, rfl, rfl, Nat.le_refl _, fun y z c q1 q2 => ?_, fun y hy => ?_, fun y c hy q => ?_, fun _ => hd, Around.frames_deeper e0.frames, .inr ⟨rfl, rfl⟩, fun b z => absurd z (no b), e0.bs, e0.bsz, fun b _ _ => no b, fun b z => absurd z (no b), e0.funs, e0.frf⟩,
   rfl, e0.bare, Un.kept hk, ⟨_, x.toInCall.ns, fun i y v q1 q2 q3 => ?_⟩, fun y c q => ?_, e0.hok.fresh (Nat.le_refl _), fun y c q => ?_, fun p hp => absurd (show p ∈ ([] : List (Addr × Obj)) from hp) (by simp), e0.hok.kept hk, ?_⟩
 · rcases cell_cases q1 with a1 | ⟨_, rfl, rfl⟩ <;> rcases cell_cases q2 with a2 | ⟨_, rfl, e2⟩
   · exact name_of_addr x.apart (PySem.mem_of_lookup a1) (PySem.mem_of_lookup a2)
   · exact absurd (Nat.lt_trans (by rw [e2] at a1; exact ab a1) ltc) (Nat.lt_irrefl _)
   · exact absurd (Nat.lt_trans (ab a2) ltc) (Nat.lt_irrefl _)
   · rfl
 · have hy : scope.names.lookup y = some .cell ∨ scope.names.lookup y = some .free := hy
   rcases hy with hy | hy
   · obtain ⟨c, e⟩ := cell_has (n := s.heap.objs.size + 1) hy
     exact ⟨c, cells_own e⟩
   · have ey := S.free _ (PySem.mem_of_lookup hy) rfl
     have ey : y = ("__class__" : Str) := ey
     subst ey
     exact ⟨cc, lookup_class (own_none S _)⟩
 · rcases cell_cases q with a1 | ⟨_, rfl, _⟩
   · exact Nat.le_of_lt (ab a1)
   · have hy : (("__class__" : Str) != ("__class__" : Str)) = true := hy
     simp at hy
 · have hi : i < vs.length := by
     unfold L2.start at q2
     by_cases hi : i < vs.length
     · exact hi
     · rw [List.getElem?_append_right (by simpa using hi), List.getElem?_replicate] at q2
       split at q2 <;> cases q2
   have ha : vs[i]? = some v := by
     unfold L2.start at q2
     rw [List.getElem?_append_left (by simpa using hi), List.getElem?_map] at q2
     cases e : vs[i]? with
     | none => rw [e] at q2; cases q2
     | some a => rw [e] at q2; cases q2; rfl
   obtain ⟨u, hu, rv⟩ := r.get ha
   have hp : ps[i]? = some y := by
     rw [← S.pre, List.getElem?_take_of_lt (by omega)]
     exact q1
   have ndP : ps.Nodup := by
     rw [← S.pre]
     exact S.nd.sublist (List.take_sublist _ _)
   refine ⟨u, rv, ?_⟩
   rcases S.par y (List.mem_of_getElem? hp) with k | k
   · exact .inl ⟨k, bindL_get ndP hp hu k⟩
   · obtain ⟨c, e⟩ := cell_has (n := s.heap.objs.size + 1) k
     refine .inr ⟨.inl k, c, cells_own e, ?_⟩
     have q := x.cell y c e
     rw [bindC_get ndP hp hu (by show scope.names.lookup y ≠ _; rw [k]; decide)] at q
     exact q
 · rcases cell_cases q with a1 | ⟨_, _, rfl⟩
   · exact ⟨_, x.cell y c a1⟩
   · exact ⟨some (.ref D), _, hk _ _ scc, rfl⟩
 · rcases cell_cases q with a1 | ⟨_, _, rfl⟩
   · exact e0.hok.fresh (Nat.le_of_lt (ab a1))
   · exact hcc
 · unfold L2.start
   show _ = N.length
   rw [List.length_append, List.length_map, List.length_replicate]
   omega
end
structure PSA (X : Cx) (c : Code) (st : Stmt) (t : TS) : Prop where
 run : ∀ (pins : List (Addr × Obj)) (s : Shared) (σ : L2.St) (H : Hp) (D : Ends), Inv X pins σ H s → t D σ H → PySem.wpAt (model X.prog X.w) X.A c (exec st X.env) (SP X pins D) X.xe s
structure PSsA (X : Cx) (c : Code) (sts : List Stmt) (t : TS) : Prop where
 run : ∀ (pins : List (Addr × Obj)) (s : Shared) (σ : L2.St) (H : Hp) (D : Ends), Inv X pins σ H s → t D σ H → PySem.wpAt (model X.prog X.w) X.A c (execs sts X.env) (SP X pins D) X.xe s
section
variable {X : Cx} {c : Code} {st : Stmt} {sts : List Stmt} {t u : TS}
theorem PSA.of (h : PS X st t) : PSA X c st t := ⟨fun pins s σ H D I q => wpAt_of_wpAny (h.run pins s σ H D I q)⟩
theorem PSsA.of (h : PSs X sts t) : PSsA X c sts t := ⟨fun pins s σ H D I q => wpAt_of_wpAny (h.run pins s σ H D I q)⟩
theorem PSsA.cons (h1 : PSA X c st t) (h2 : PSsA X c sts u) : PSsA X c (st :: sts) (tSeq t u) := by
 refine ⟨fun pins s σ H D I h => ?_⟩
 refine ks_wpAt_execs_cons (PySem.wpAt_mono (h1.run pins s σ H { D with nx := u D } I h) (fun fl s1 q => ?_) fun _ _ z => z)
 cases fl with
 | next =>
   obtain ⟨σ', H', I', q⟩ := q
   exact h2.run pins s1 σ' H' D I' q
 | ret v => exact q
 | brk => exact q
 | cont => exact q
end
section
variable {P : Program} {w : World} {K : PySem.W.Frag} {mg : Str → Option Value} {base : Heap} {k : Nat} {f cc D : Addr} {name qual : Str} {params : Arguments} {body : List Stmt} {scope : Scope} {dV kV doc pm cdv ct oc : Value} {an od : Option Addr} {osl : Array (Option Value)} {N ps : List Str} {sp : Sp}
theorem fn_ofS (lk : K.lookup f = some ⟨oc, od, .func (PySem.W.ksFn name qual params body scope dV kV doc pm an cdv ct cc), osl⟩) (hcd : PySem.W.codeIn K cdv qual = true) (CC : ClsCell K cc D) (S : SupScope N ps scope)
   (len : ∀ vs H Q E, sp vs H Q E → vs.length = ps.length)
   (hbody : ∀ (A : Around) (outer : List Env) (s : Shared) (H : Hp) (vs : List V) (Q : VK) (E : XK), Room k (A.deeper (envS qual scope s.heap.objs.size f cdv cc)) → sp vs H Q E →
     ∃ t, PSsA (cxS P w K mg base N qual scope f cdv cc A outer s H E) (.func body (envS qual scope s.heap.objs.size f cdv cc)) body t ∧ t { nx := fun _ H' => Q .non H', rt := Q } (L2.start N vs) H) :
   FnOk P w K mg base (L2.CX P w) (k + 1) f (PySem.W.ksFn name qual params body scope dV kV doc pm an cdv ct cc) ps sp := by
 refine ⟨len, fun A outer s H args us vs Q E hr e0 hb r hsp => ?_⟩
 have hl := len _ _ _ _ hsp
 have KX : K.In s.heap := e0.mod.kin.keeps fun b o e => (e0.bs b o e).1
 have lim : s.heap.NoLimit := e0.mod.nolimit.keeps fun b o e => (e0.bs b o e).1
 have hkind : ∀ y ∈ ps.zip us, scope.names.lookup y.1 = some .local ∨ (scope.names.lookup y.1 = some .cell ∧ ∃ c, (cellsFrom (s.heap.objs.size + 1) scope.names []).lookup y.1 = some c) := fun ⟨n, v⟩ hy => by
   rcases S.par n (List.of_mem_zip hy).1 with q | q
   · exact .inl q
   · exact .inr ⟨q, cell_has q⟩
 refine codeAny_call_function hr.depth (KX _ _ lk) rfl S.co S.gen rfl (PySem.W.codeRec_of KX hcd) (hb _ _ _ _ ?_)
 refine newEnvX S.kind hkind fun env he s1 x => ?_
 subst he
 refine ⟨lim.keeps x.toInCall.keep, ks_codeAny_funcAt ?_⟩
 obtain ⟨t, ht, hq⟩ := hbody A outer s H vs Q E (hr.deeper _) hsp
 have I : Inv (cxS P w K mg base N qual scope f cdv cc A outer s H E) [] (L2.start N vs) H s1 := inv_startS S CC hr.hd e0 hl r x
 refine PySem.wpAt_mono (ht.run [] s1 (L2.start N vs) H _ I hq) (fun fl s' hs => ?_) fun e s' hs => hs
 have fin : ∀ {σ' : L2.St} {H' : Hp} {v : V} {u : Value}, Inv (cxS P w K mg base N qual scope f cdv cc A outer s H E) [] σ' H' s' → RelV v u → Q v H' → CE outer P w H s Q u s' :=
   fun {σ' H' v u} J rv q => ⟨v, H', J.os, J.bare, J.base, J.hok, rv, q⟩
 cases fl with
 | ret u =>
   obtain ⟨v, σ', H', J, rv, q⟩ := hs
   exact fin J rv q
 | next =>
   obtain ⟨σ', H', J, q⟩ := hs
   exact fin (v := V.non) (u := Value.none) J rfl q
 | brk =>
   obtain ⟨_, _, _, q⟩ := hs
   exact False.elim q
 | cont =>
   obtain ⟨_, _, _, q⟩ := hs
   exact False.elim q
end
end Zl
end
section
namespace Zl
open PySem PySem.Spec PyProof.Rows L2
structure SupX (X : Cx) (D : Addr) (a0 : Str) : Prop where
 ks : X.env.kindOf "super" = some .globalImplicit
 kc : X.env.kindOf "__class__" = some .free
 fn : ∃ f oc od fd osl ar, X.env.func = some f ∧ X.K.lookup f = some ⟨oc, od, .func fd, osl⟩ ∧ (fd.params.posonlyargs ++ fd.params.args).head? = some ar ∧ ar.arg = a0
 code : ∃ cda ccl cdd vs ccs file tf, X.env.code = .ref cda ∧ X.K.lookup cda = some ⟨ccl, cdd, .fields vs, ccs⟩ ∧ vs[2]? = some (.str file tf) ∧ ((X.prog.main.file : Str) == file) = true
 cell : ∃ cc, X.env.cells.lookup ("__class__" : Str) = some cc ∧ ClsCell X.K cc D
 cls : ∃ cd, PySem.W.clsIn X.K D = some cd
 top : (X.prog.main.scope.names.lookup ("super" : Str)).isSome = false
 n0 : X.N[0]? = some a0
 vis : Vis X.env.scope a0
 blt : X.mg "super" = none
section
variable {X : Cx} {D x C : Addr} {a0 : Str} {pins : List (Addr × Obj)} {σ : L2.St} {H : Hp} {s : Shared} {A : Around} {E : Value → Shared → Prop}
theorem ld_free {y : Str} {c : Addr} {v : Value} {Q : Value → Shared → Prop} (I : Inv X pins σ H s) (hk : X.env.kindOf y = some .free) (hc : X.env.cells.lookup y = some c) (hv : s.heap.IsCell c (some v)) (h : Q v s) (hn : (y == ("__classdict__" : Str)) = false := by decide) : wpAny (model X.prog X.w) A (loadName X.env y) Q E s :=
 wpAny_loadName_free I.ok.kind hk hc hv h hn
theorem ld_slot {i : Nat} {y : Str} {v : V} {Q : Value → Shared → Prop} (I : Inv X pins σ H s) (hN : X.N[i]? = some y) (hs : σ[i]? = some (some v)) (hv : Vis X.env.scope y) (h : ∀ u, RelV v u → Q u s) (hn : (y == ("__classdict__" : Str)) = false := by decide) : wpAny (model X.prog X.w) A (loadName X.env y) Q E s := by
 obtain ⟨m, hm, hl⟩ := I.loc
 obtain ⟨u, r, l⟩ := hl i y v hN hs hv
 rcases l with ⟨hk, e⟩ | ⟨hk, c, hc, hcell⟩
 · exact wpAny_loadName_local I.ok.kind hk hm e (h u r)
 · rcases hk with hk | hk
   · exact wpAny_loadName_cell I.ok.kind hk hc hcell (h u r)
   · exact wpAny_loadName_free I.ok.kind hk hc hcell (h u r) hn
theorem super_made {body : List Stmt} {attr : Str} {p0 p1 : Pos} {whole : PySem.Sem Value} {ox : Obj} {Q : Value → Shared → Prop} (T : SupX X D a0) (I : Inv X pins σ H s) (hs : σ[0]? = some (some (.ref x))) (hx : s.heap.get? x = some ox) (hc : ox.cls = .ref C) (hd : ∀ c, ox.data ≠ .cls c) (hm : PySem.W.mroIn X.K C (.ref D) = some true) (hat : (attr == ("__class__" : Str)) = false)
   (hcd : (a0 == ("__classdict__" : Str)) = false) (h : ∀ s', Inv X ((s.heap.objs.size, PySem.W.ks_superObj D x C) :: pins) σ H s' → (∀ b o, s.heap.get? b = some o → s'.heap.get? b = some o) → s.heap.objs.size < s'.heap.objs.size → Q (.ref s.heap.objs.size) s') :
   PySem.wpAt (model X.prog X.w) A (.func body X.env) (attributeBase (.Call (.Name "super" p0) [] [] p1) attr X.env whole) Q E s := by
 obtain ⟨f, oc, od, fd, osl, ar, hf, lf, hp, ea⟩ := T.fn
 obtain ⟨cda, ccl, cdd, vs, ccs, file, tf, hcode, lc, hvs, hfile⟩ := T.code
 obtain ⟨cc, hcc, cl, cld, csl, lcc⟩ := T.cell
 obtain ⟨cdD, hD⟩ := T.cls
 have KI := I.kIn
 obtain ⟨oD, gD, dD⟩ : ∃ oD, s.heap.get? D = some oD ∧ oD.data = .cls cdD := by
   unfold PySem.W.clsIn at hD
   split at hD
   · rename_i c d cd' sl ho
     cases hD
     exact ⟨_, KI _ _ ho, rfl⟩
   · cases hD
 refine ks_wpAt_super_base T.ks T.kc hat hf (KI _ _ lf) rfl hp hcode (KI _ _ lc) rfl hvs hfile T.top ?_
 obtain ⟨mb, b1, b2⟩ := I.mod.blt
 refine PySem.W.ks_loadName_global I.ok.kind T.ks (Calls.loadGlobal_builtin (by rw [I.ok.glob]; exact I.mod.glob.keeps I.bk) T.blt (by rw [I.ok.blt]; exact b1.keeps I.bk) ((b2 _ (by decide +kernel)).trans (show bootBuiltins "super" = some (.type "super") by decide +kernel)) ⟨rfl, ?_⟩)
 refine ld_free I T.kc hcc ⟨_, KI _ _ lcc, rfl⟩ ?_
 refine ld_slot I T.n0 hs T.vis ?_ hcd |> fun z => by rw [ea]; exact z
 intro u ru
 obtain rfl : u = Value.ref x := ru
 obtain ⟨hh, g, d, t, os⟩ := s
 refine ks_wpAny_isType_cls gD dD ⟨rfl, ?_⟩
 refine ks_wpAny_call_super gD dD hx hc hd (PySem.W.looks_mroIn KI hm) fun h' e k => ?_
 exact h ⟨h', g, d, t, os⟩ (ClX.pin_new I k (Nat.le_refl _) e (fun v z => nomatch z)) k (Heap.lt_size e)
end
end Zl
end
section
namespace Zl
open PySem PySem.Spec PyProof.Rows L2
abbrev wrV (x : Addr) : Obj := { cls := .type "method-wrapper", dict := none, data := .fields #[VEI, .ref x], slots := #[] }
theorem type_vei : typeOf VEI = pure (.type "wrapper_descriptor") := by
 show builtinType _ = _
 rw [builtinType_eq_fast]
 kernel_rfl
theorem nac_vei : (kfb_private% "nameAndClass") VEI = (pure (("__init__" : Str), Value.type "ValueError") : PySem.Sem (Str × Value)) := by kernel_rfl
section
open PySem.W
variable {prog : Program} {w : World} {M : Model} {A : Around} {E : Value → Shared → Prop} {h : Heap} {g : Array GenState} {d : Drawn} {t : Nat} {os : OsState}
theorem wd_vei {x C : Addr} {P : Fin → Shared → Prop} (isV : Looks M h (isInstance (.ref x) (.type "ValueError")) true) (q : P (.done (.ret (.ref h.objs.size))) ⟨h.push (wrV x), g, d, t, os⟩) :
   wpAny M A (Builtin.«wrapper_descriptor.__get__» ⟨[VEI, .ref x, .ref C], []⟩) P E ⟨h, g, d, t, os⟩ := by
 unfold Builtin.«wrapper_descriptor.__get__»
 refine wpAny_bind (wpAny_of_eq (a := (VEI, some (.ref x), some (.ref C))) (by first | rfl | kernel_rfl) ?_)
 show wpAny M A ((kfb_private% "checkInstance") VEI (.ref x) >>= fun _ => newFields "method-wrapper" [VEI, .ref x] >>= fun r => ret r) P E _
 refine wpAny_bind ?_
 show wpAny M A ((kfb_private% "nameAndClass") VEI >>= _) _ E _
 refine wpAny_bind (wpAny_of_eq nac_vei ?_)
 show wpAny M A (isInstance (.ref x) (.type "ValueError") >>= _) _ E _
 refine wpAny_bind (isV.at ?_)
 exact KFB.if_not rfl (wpAny_pure (wpAny_bind (wpAny_newObj_type (wpAny_pure q))))
theorem ga_vei {so D x C : Addr} {mro rest : List Value} {K : Frag} {nm : Str} {tk : Tok} {Q : Fin → Shared → Prop}
   (eso : h.get? so = some (ks_superObj D x C)) (opq : Looks (model prog w) h (opaqueClassAbove (.ref C)) none) (lmro : Looks (model prog w) h (mroOf (.ref C)) mro) (hl : (mro.dropWhile (· != .ref D)).drop 1 = rest) (X : K.In h)
   (al : alongIn K nm rest = some (some VEI)) (xC : x ≠ C) (ncls : (nm == ("__class__" : Str)) = false) (isV : Looks (model prog w) h (isInstance (.ref x) (.type "ValueError")) true) (q : Q (.done (.ret (.ref h.objs.size))) ⟨h.push (wrV x), g, d, t, os⟩) :
   wpAny (model prog w) A (Builtin.«super.__getattribute__» ⟨[.ref so, .str nm tk], []⟩) Q E ⟨h, g, d, t, os⟩ := by
 have lk := ESX.slot_wd.lookup
 have nxc : (Value.ref x == Value.ref C) = false := by simp [xC]
 have tf := type_vei
 have ti : Shared.TypeIs ⟨h, g, d, t, os⟩ VEI "wrapper_descriptor" := type_vei
 have dt : (ks_superObj D x C).data = .fields #[.ref D, .ref x, .ref C] := rfl
 have p0 : (#[.ref D, .ref x, .ref C] : Array Value)[0]? = some (.ref D) := rfl
 have p1 : (#[.ref D, .ref x, .ref C] : Array Value)[1]? = some (.ref x) := rfl
 have p2 : (#[.ref D, .ref x, .ref C] : Array Value)[2]? = some (.ref C) := rfl
 unfold Builtin.«super.__getattribute__»
 repeat (first
   | (with_reducible refine wpAny_field eso dt p0 ?_) | (with_reducible refine wpAny_field eso dt p1 ?_)
   | (with_reducible refine wpAny_field eso dt p2 ?_) | (with_reducible refine ks_wpAny_notOpaque opq ?_)
   | (with_reducible refine Looks.at lmro ?_; rw [hl])
   | (refine ks_forIn_along X (fun _ _ => rfl) rfl ?_ al)
   | (with_reducible refine wpAny_call_entry ESX.slot_wd ti ESX.entry_wd ?_ (ESX.args_wd _ _ _))
   | (with_reducible refine wd_vei isV ?_) | (with_reducible refine ⟨_, rfl, ?_⟩)
   | (simp only [ncls, nxc, Bool.or_false, Bool.false_eq_true, if_false])
   | wp_step | dsimp only)
 all_goals exact q
theorem gm_vei {so D x C : Addr} {mro rest : List Value} {K : Frag} {nm : Str} {pl : PySem.Sem Bool} {Q : Value × List Value → Shared → Prop}
   (eso : h.get? so = some (ks_superObj D x C)) (opq : Looks (model prog w) h (opaqueClassAbove (.ref C)) none) (lmro : Looks (model prog w) h (mroOf (.ref C)) mro) (hl : (mro.dropWhile (· != .ref D)).drop 1 = rest) (X : K.In h)
   (al : alongIn K nm rest = some (some VEI)) (xC : x ≠ C) (ncls : (nm == ("__class__" : Str)) = false) (isV : Looks (model prog w) h (isInstance (.ref x) (.type "ValueError")) true) (q : Q (.ref h.objs.size, []) ⟨h.push (wrV x), g, d, t + 1, os⟩) :
   wpAny (model prog w) A (getMethod (.ref so) nm pl) Q E ⟨h, g, d, t, os⟩ := by
 have lk := F.ks_slot_super_ga.lookup
 have cn := F.ks_canon_super_ga
 have ty : ∀ t', (⟨h, g, d, t', os⟩ : Shared).TypeIs (.ref so) "super" := fun _ => ⟨_, eso, rfl⟩
 unfold getMethod
 refine wpAny_bind (wpAny_specialOf (ty _) lk ?_)
 show wpAny _ _ (if (Manifest.canonical "super.__getattribute__" != "object.__getattribute__") = true then _ else _) _ _ _
 rw [if_pos cn]
 unfold getAttr getAttrBy
 refine wpAny_bind (wpAny_bind (wpAny_mkText (wpAny_holding (wpAny_bind (wpAny_typeOf (ty _) (wpAny_bind (wpAny_of_eq lk ?_)))))))
 show wpAny _ _ (getAttrByItsOwn (.ref so) (.str nm t) (.type "super") (.builtin "super.__getattribute__") true false) _ _ _
 unfold getAttrByItsOwn hookBefore callGetattribute boundAndCalled
 refine wpAny_bind (wpAny_of_eq (a := none) (show (if onTheHeap (.type "super") then typeLookup (.type "super") "__getattr__" else pure none) = pure none from rfl) ?_)
 refine wpAny_bind (wpAny_attempt (wpAny_holding ?_))
 show wpAny _ _ (bindSpecial (.builtin "super.__getattribute__") (.ref so) >>= _) _ _ _
 refine wpAny_bind (wpAny_of_eq (F.ks_slot_super_ga.bind (.ref so)) ?_)
 refine wpAny_mono (Q := fun v s' => v = .ref h.objs.size ∧ s' = ⟨h.push (wrV x), g, d, t + 1, os⟩) (E := fun _ _ => False) (wpAny_call_entry F.ks_slot_super_ga (ty _) F.ks_entry_super_ga (ga_vei eso opq lmro hl X al xC ncls isV ⟨_, rfl, rfl, rfl⟩) (F.ks_gaArgs_super _ _)) (fun v s' hv => ?_) fun _ _ z => z.elim
 obtain ⟨rfl, rfl⟩ := hv
 exact wpAny_pure (wpAny_pure q)
end
section
open PySem.W PySem.Calls PyProof.Rows
variable {prog : Program} {w : World} {M : Model} {A : Around} {E : Value → Shared → Prop} {s : Shared}
theorem cw_vei0 {pos : Pos} {u x : Addr} {args : List (Bool × PySem.Sem Value)} {Q : Value → Shared → Prop} (pla : args.any (·.1) = false)
   (h : wpAny M A (evalArgs (.ref u) true args []) (fun a s1 => s1.heap.get? u = some (wrV x) ∧ wpAny M A (call (.ref u) ([] ++ a.pos) a.kw) Q E s1) E s) : wpAny M A (callWith pos (.ref u) [] args []) Q E s := by
 unfold callWith
 refine wpAny_bind (wpAny_holding (wpAny_mono h (fun a s1 h1 => wpAny_bind (wpAny_standAt ?_)) fun _ _ z => z))
 obtain ⟨ho, hcall⟩ := h1
 simp only [pla, List.any_nil, Bool.or_false]
 refine wpAny_bind (m := keeperOf (.ref u)) ?_
 unfold keeperOf
 refine wpAny_bind (wpAny_load ho ?_)
 simp only [wrV, show (Value.type "method-wrapper" != Value.type "method") = true by decide, show (Value.type "method-wrapper" == Value.type "builtin_function_or_method" || Value.type "method-wrapper" == Value.type "method-wrapper") = true by decide, if_true]
 exact wpAny_pure (wpAny_bind (wpAny_mono hcall (fun r s2 hr => wpAny_bind (wpAny_holding (wpAny_point (wpAny_pure hr)))) fun _ _ z => z))
theorem cw_vei {pos : Pos} {u x : Addr} {env : Env} {e : Expr} {rest : List Expr} {Q : Value → Shared → Prop}
   (h : wpAny M A (spliced (backTo pos (starEach (e :: rest) env))) (fun vs s1 => s1.heap.get? u = some (wrV x) ∧ wpAny M A (call (.ref u) ([] ++ vs)) Q E s1) E s)
   (he : starEach (e :: rest) env = (false, eval e env) :: starEach rest env := by rfl) (hp : (backTo pos (starEach rest env)).any (·.1) = false := by rfl) :
   wpAny M A (callWith pos (.ref u) [] (backTo pos (starEach (e :: rest) env)) []) Q E s := by
 rw [he] at h ⊢
 refine cw_vei0 (x := x) (by show (false || (backTo pos (starEach rest env)).any fun z => z.1) = false; rw [hp]; rfl) ?_
 exact evalArgs_plain h
end
section
open PySem.W PySem.Calls PyProof.Rows
variable {X : Cx} {pins : List (Addr × Obj)} {σ : L2.St} {H : Hp} {s : Shared} {a C u : Addr} {A : Around} {E : Value → Shared → Prop}
variable {M : Model} {h : Heap} {g : Array GenState} {d : Drawn} {t : Nat} {os : OsState}
variable {nm q : Str} {N : Addr} {bs bm bmB : List Value} {hdct : Bool} {sn : List Str} {sub : List Value} {ab : Bool} {col : Option Bool} {dd : Option Addr} {k0 k1 k2 k3 k5 : Option Value} {B newId initId : String}
variable {prog : Program} {w : World}
theorem call_vei {e t0 : Addr} {rest : List Value} {Q : Value → Shared → Prop}
   (hC : h.get? C = some (excClassObj nm q C N bs bm hdct sn sub ab col dd k0 k1 k2 k3 k5 "ValueError.__new__")) (he : h.get? e = some (HandSPX.excO C t0)) (hu : h.get? u = some (wrV e)) (hl : rest.length ≤ sizeLine)
   (hq : ∀ h' t1, (∀ b o, b ≠ e → h.get? b = some o → h'.get? b = some o) → h'.get? e = some (HandSPX.excO C t1) → Q .none ⟨h', g, d, t, os⟩) :
   wpAny (model prog w) A (call (.ref u) rest) Q E ⟨h, g, d, t, os⟩ := by
 refine wpAny_call (codeAny_of_tree ?_)
 show wpAny _ A.in1 (callAny (.ref u) ⟨rest, []⟩) _ _ _
 unfold callAny
 refine wpAny_bind (wpAny_load hu ?_)
 simp only [wrV, show (Value.type "method-wrapper" == Value.type "method" || Value.type "method-wrapper" == Value.type "builtin_function_or_method" || Value.type "method-wrapper" == Value.type "method-wrapper") = true by decide, if_true]
 refine KFB.if_so (by decide) ?_
 refine wpAny_bind (ESX.check_bound F.excBase_ValueError hC he rfl (wpAny_bind (wpAny_pure (wpAny_pure ?_)) |> fun z => z))
 refine ⟨Code.quiet_builtin _ (by decide +kernel), codeAny_builtin F.excBase_ValueError.initEntry ?_⟩
 rw [Around.under_plainId F.excBase_ValueError.init.plain _]
 wp_walk
 refine hq _ h.objs.size (fun b o hb ho => ?_) ?_
 · exact (Heap.get?_update_other _ _ (Ne.symm hb)).trans (Heap.get?_push_of_some _ ho)
 · exact (Heap.get?_update_self _ (Heap.get?_push_of_some _ he) rfl).trans rfl
end
section
variable {X : Cx} {pins : List (Addr × Obj)} {σ : L2.St} {H : Hp} {s : Shared} {a C u : Addr} {A : Around} {E : Value → Shared → Prop}
theorem bound_vei {us : List Value} {Q : Value → Shared → Prop} (T : OexC X.K C) (I : Inv X pins σ H s) (e : H a = some (exo a C none)) (hu : s.heap.get? u = some (wrV a)) (hl : us.length ≤ sizeLine) (h : ∀ s', Inv X pins σ H s' → Q .none s') :
   wpAny (model X.prog X.w) A (call (.ref u) us) Q E s := by
 obtain ⟨nm, q, N, bs, bm, sn, sub, ab, col, dd, k0, k1, k2, k3, k5, hC, hbm⟩ := T.cls
 obtain ⟨t1, ho⟩ := exo_at I.hok e
 obtain ⟨hp, g, d, t, os⟩ := s
 refine call_vei (I.kIn _ _ hC) ho hu hl fun h' t2 k hx => ?_
 have J := I.write (t' := t) (x := a) (e := a) (o := exo a C none) (by rw [e]; exact True.intro) (.inl rfl) k ⟨_, hx⟩ (exo_ok hx)
 have same : upd H a (exo a C none) = H := by
   funext b
   by_cases hb : b = a
   · rw [hb, upd_same, e]
   · exact upd_ne hb
 rw [same] at J
 exact h _ J
structure SupV (K : PySem.W.Frag) (C D : Addr) : Prop where
 ox : OexC K C
 sub : PySem.W.mroIn K C (.ref D) = some true
 ini : PySem.W.ks_superIn K C D "__init__" = some (some VEI)
 ve : PySem.W.mroIn K C (.type "ValueError") = some true
 op : PySem.W.nsIn K cStatics "thirdparty.any" = some none
def tSupV (K : PySem.W.Frag) (D : Addr) (ta : TA) : TE := fun σ H Q => ∃ a C, σ[0]? = some (some (V.ref a)) ∧ H a = some (exo a C none) ∧ SupV K C D ∧ ta σ H fun vs H1 => vs.length ≤ 1000 ∧ H1 a = some (exo a C none) ∧ Q .non H1
theorem psa_supV {D : Addr} {a0 : Str} {body : List Stmt} {e : Expr} {es : List Expr} {ta : TA} {p0 p1 p2 pos pos' : Pos} {pl : PySem.Sem Bool} (T : SupX X D a0) (ha : PA X (e :: es) ta) (hcd : (a0 == ("__classdict__" : Str)) = false := by decide)
   (hc : eval (.Call (.Attribute (.Call (.Name "super" p0) [] [] p1) "__init__" p2) (e :: es) [] pos) X.env = (do
     let ov ← attributeBase (.Call (.Name "super" p0) [] [] p1) "__init__" X.env (eval (.Call (.Name "super" p0) [] [] p1) X.env)
     standAt p2.atName
     let (f, first) ← holding [ov] (getMethod ov "__init__" pl)
     callWith pos f first (backTo pos (starEach (e :: es) X.env)) []) := by rfl)
   (he : starEach (e :: es) X.env = (false, eval e X.env) :: starEach es X.env := by rfl) (hpl : (backTo pos (starEach es X.env)).any (·.1) = false := by rfl)
   (hsw : swapsWith (.Call (.Attribute (.Call (.Name "super" p0) [] [] p1) "__init__" p2) (e :: es) [] pos) none pos'.line X.env = pure false := by rfl) :
   PSA X (.func body X.env) (.Expr (.Call (.Attribute (.Call (.Name "super" p0) [] [] p1) "__init__" p2) (e :: es) [] pos) pos') (tDrop (tSupV X.K D ta)) := by
 refine ⟨fun pins s σ H Dn I ⟨a, C, hs, hH, SV, h⟩ => ?_⟩
 obtain ⟨t1, ho⟩ := exo_at I.hok hH
 refine ks_wpAt_Expr_any (ks_wpAt_MethodCall (pl := pl) (super_made T I hs ho rfl (fun c z => nomatch z) SV.sub (by decide) hcd fun s1 I1 k1 l1 => ?_) hc) I.quiet hsw
 obtain ⟨nm, q, N, bs, bm, sn, sub, ab, col, dd, k0, k1', k2, k3, k5, hC, hbm⟩ := SV.ox.cls
 have hcl : PySem.W.clsIn X.K C = some { name := nm, bases := bs, mro := .ref C :: bm, ns := N, qualname := q, hasDict := true, slotNames := sn, subclasses := sub, abstract := ab, collection := col, hasDel := false } := by
   unfold PySem.W.clsIn
   rw [hC]
 obtain ⟨t2, ho2⟩ := exo_at I1.hok hH
 have J : PySem.W.InstAt s1.heap a { cls := .ref C, data := .fields #[.ref t2, .none, .none, .none, .bool false, .none] } C none := ⟨ho2, rfl, rfl, trivial⟩
 have ini := SV.ini
 unfold PySem.W.ks_superIn at ini
 rw [hcl] at ini
 have aC : a ≠ C := PySem.W.ks_ne I1.kIn J hcl
 obtain ⟨hp, g, d, t, os⟩ := s1
 refine gm_vei (ClX.pin_at I1) (PySem.W.looks_opaque I1.kIn SV.op) (mro := .ref C :: bm) (fun A Q E s k q => wpAny_bind ((PySem.W.looks_clsIn I1.kIn hcl) A _ E s k (wpAny_pure q))) rfl I1.kIn ini aC (by decide) (J.type.andThen (PySem.W.looks_mroIn I1.kIn SV.ve)) ?_
 have I2 : Inv X ((hp.objs.size, wrV a) :: (s.heap.objs.size, PySem.W.ks_superObj D a C) :: pins) σ H ⟨hp.push (wrV a), g, d, t + 1, os⟩ :=
   ClX.pin_new I1 (fun _ _ z => Heap.get?_push_of_some _ z) (Nat.le_refl _) (Heap.get?_push_size hp rfl) (fun v z => nomatch z)
 refine cw_vei (x := a) (thn (ha.run pos _ _ σ H _ I2 h) fun us s3 ⟨vs, H1, I3, r, hl, hH1, q⟩ => ⟨ClX.pin_at I3, ?_⟩) he hpl
 refine bound_vei SV.ox I3 hH1 (ClX.pin_at I3) (by rw [List.nil_append, ← r.length, sizeLine_eq]; omega) fun s4 I4 => ?_
 exact ⟨σ, H1, ClX.unpin (ClX.unpin I4), q⟩
end
end Zl
end
section
namespace Zl
open PySem PySem.Spec PyProof.Rows L2
def CodeFile (P : Program) (K : PySem.W.Frag) (cdv : Value) : Prop := ∃ cda ccl cdd vs ccs file tf, cdv = .ref cda ∧ K.lookup cda = some ⟨ccl, cdd, .fields vs, ccs⟩ ∧ vs[2]? = some (.str file tf) ∧ ((P.main.file : Str) == file) = true
structure SupTop (P : Program) (mg : Str → Option Value) : Prop where
 top : (P.main.scope.names.lookup ("super" : Str)).isSome = false
 blt : mg "super" = none
structure DefS (P : Program) (K : PySem.W.Frag) (D f : Addr) (name qual : Str) (params : Arguments) (body : List Stmt) (scope : Scope) (fd : FuncData) : Prop where
 ex : ∃ oc od osl kV doc pm an cdv ct cc, fd = PySem.W.ksFn name qual params body scope .none kV doc pm an cdv ct cc ∧ K.lookup f = some ⟨oc, od, .func fd, osl⟩ ∧ PySem.W.codeIn K cdv qual = true ∧ ClsCell K cc D ∧ CodeFile P K cdv
 cls : ∃ cd, PySem.W.clsIn K D = some cd
 kp : PySem.W.keepIn K (.ref f) = true
section
variable {P : Program} {w : World} {K : PySem.W.Frag} {mg : Str → Option Value} {base : Heap} {k : Nat} {f D : Addr} {name qual a0 : Str} {params : Arguments} {body : List Stmt} {scope : Scope} {fd : FuncData} {N ps : List Str} {sp : Sp}
theorem DefS.ok (T : DefS P K D f name qual params body scope fd) (TT : SupTop P mg) (S : SupScope N ps scope) (hsu : scope.names.lookup ("super" : Str) = some .globalImplicit) (n0 : N[0]? = some a0) (vis : Vis scope a0) (hp : ∃ ar, (params.posonlyargs ++ params.args).head? = some ar ∧ ar.arg = a0)
   (len : ∀ vs H Q E, sp vs H Q E → vs.length = ps.length)
   (hbody : ∀ (X : Cx) (A : Around) (outer : List Env) (s : Shared) (H : Hp) (vs : List V) (Q : VK) (E : XK) (cdv : Value) (cc : Addr), X = cxS P w K mg base N qual scope f cdv cc A outer s H E → SupX X D a0 → Room k X.A → sp vs H Q E →
     ∃ t, PSsA X (.func body X.env) body t ∧ t { nx := fun _ H' => Q .non H', rt := Q } (L2.start N vs) H) :
   FnOk P w K mg base (L2.CX P w) (k + 1) f fd ps sp := by
 obtain ⟨oc, od, osl, kV, doc, pm, an, cdv, ct, cc, rfl, lk, hcd, CC, cda, ccl, cdd, vs0, ccs, file, tf, ec, lc, hv, hf⟩ := T.ex
 obtain ⟨ar, h1, h2⟩ := hp
 refine fn_ofS lk hcd CC S len fun A outer s H vs Q E hr hsp => ?_
 exact hbody (cxS P w K mg base N qual scope f cdv cc A outer s H E) A outer s H vs Q E cdv cc rfl ⟨hsu, S.ncl, ⟨f, oc, od, _, osl, ar, rfl, lk, h1, h2⟩, ⟨cda, ccl, cdd, vs0, ccs, file, tf, ec, lc, hv, hf⟩, ⟨cc, lookup_class (own_none S _), CC⟩, T.cls, TT.top, n0, vis, TT.blt⟩ hr hsp
end
def spExc (C : Addr) (fns : List Str) : Sp := fun vs H Q _ => ∃ e ws, vs = V.ref e :: ws ∧ ws.length = fns.length ∧ H e = some (exo e C none) ∧
 ∀ dx H', H dx = none → dx ≠ e → H' e = some (exo e C (some dx)) → H' dx = some (exd dx (fns.zip ws).reverse) → (∀ b, b ≠ e → b ≠ dx → H' b = H b) → Q .non H'
section
variable {P : Program} {w : World} {K : PySem.W.Frag} {mg : Str → Option Value} {base : Heap} {f C : Addr} {name qual a b z f1 f2 : Str} {params : Arguments} {body : List Stmt} {scope : Scope} {fd : FuncData} {p0 p1 p2 p3 p4 p5 p6 p7 p8 p9 q6 q7 q8 q9 : Pos} {j : Nat} {pl : PySem.Sem Bool}
theorem exc_ok1 (T : DefS P K C f name qual params body scope fd) (TT : SupTop P mg) (SV : SupV K C C) (no1 : PySem.W.findIn K (.ref C) f1 = some none)
   (hb : body = [.Expr (.Call (.Attribute (.Call (.Name "super" p0) [] [] p1) "__init__" p2) [.Constant (.str z) j p3] [] p4) p5, .Assign [.Attribute (.Name "self" p6) f1 p7] (.Name a p8) p9])
   (S : SupScope ["self", a] ["self", a] scope) (hsu : scope.names.lookup ("super" : Str) = some .globalImplicit) (vis : Vis scope "self") (vis1 : Vis scope a) (hp : ∃ ar, (params.posonlyargs ++ params.args).head? = some ar ∧ ar.arg = ("self" : Str))
   (hc : ∀ env : Env, eval (.Call (.Attribute (.Call (.Name "super" p0) [] [] p1) "__init__" p2) [.Constant (.str z) j p3] [] p4) env = (do
     let ov ← attributeBase (.Call (.Name "super" p0) [] [] p1) "__init__" env (eval (.Call (.Name "super" p0) [] [] p1) env)
     standAt p2.atName
     let (f, first) ← holding [ov] (getMethod ov "__init__" pl)
     callWith p4 f first (backTo p4 (starEach [.Constant (.str z) j p3] env)) []) := by intro env; rfl)
   (hsw : ∀ env : Env, swapsWith (.Call (.Attribute (.Call (.Name "super" p0) [] [] p1) "__init__" p2) [.Constant (.str z) j p3] [] p4) none p5.line env = pure false := by intro env; rfl)
   (hd : (a == ("__debug__" : Str)) = false := by decide) (hcd : (a == ("__classdict__" : Str)) = false := by decide) : FnOk P w K mg base (L2.CX P w) 1 f fd ["self", a] (spExc C [f1]) := by
 subst hb
 refine T.ok TT S hsu rfl vis hp (fun vs H Q E ⟨e, ws, ev, hl, _⟩ => by rw [ev, List.length_cons, hl]; rfl) fun X A outer s H vs Q E cdv cc eX SX hr ⟨e, ws, ev, hl, he, hq⟩ => ?_
 subst ev
 match ws, hl with
 | [y], _ =>
   subst eX
   refine ⟨_, PSsA.cons (psa_supV SX (pa_cons pe_str pa_nil) (by decide) (hc _) rfl rfl (hsw _)) (PSsA.of (pss_one (ps_ost (pe_var (i := 0) rfl vis) (pe_var (i := 1) rfl vis1 hd hcd)))), ?_⟩
   refine ⟨e, C, rfl, he, SV, Nat.le_of_ble_eq_true rfl, he, y, rfl, V.ref e, rfl, e, C, rfl, SV.ox, no1, .inl ⟨he, fun dx n ne => ?_⟩⟩
   refine hq dx _ n ne upd_same (by rw [upd_ne ne, upd_same]; rfl) fun c h1 h2 => by rw [upd_ne h1, upd_ne h2]
end
section
variable {g : G} {F : Fr} {U : Addr → Prop} {ρ : List Addr} {zσ : ZS} {zh : ZH} {σ : L2.St} {H : Hp} {W : WX}
theorem RDs.snoc : ∀ {xs : List D} {vs : List V} {x : D} {v : V}, RDs g U H xs vs → RD g U H x v → RDs g U H (xs ++ [x]) (vs ++ [v]) := fun h k => h.append (rds_cons.mpr ⟨_, [], rfl, k, rds_nil.mpr rfl⟩)
theorem RDs.back : ∀ {xs : List D} {vs : List V}, RDs g U H xs vs → RDs g U H xs.reverse vs.reverse
 | [], vs, h => by rw [rds_nil.mp h]; exact rds_nil.mpr rfl
 | x :: xs, vs, h => by
   obtain ⟨v, vs', rfl, h1, h2⟩ := rds_cons.mp h
   rw [List.reverse_cons, List.reverse_cons]
   exact (RDs.back h2).snoc h1
theorem PostA.toS {D : Ends} (rs : RelS g (UO F ρ zh) H ρ zσ σ) {out : Out (List Z)} {f : List Z → ZH → OutS} {K : List V → Hp → Prop} (p : PostS g F W ρ zh H (out.bndS zσ f) D)
   (h : ∀ ρ1 zs zh1 vs H1, Ext F ρ zh H ρ1 zh1 H1 → RelH g F ρ1 zh1 H1 → RZs g (UO F ρ1 zh1) H1 ρ1 zs vs → PostS g F W ρ1 zh1 H1 (f zs zh1) D → K vs H1) : PostA g F W ρ zσ zh σ H out K := by
 cases out with
 | ok zs zh1 => exact fun ρ' vs H' e1 e2 e3 => h ρ' zs zh1 vs H' e1 e2 e3 (PostS.shift e1 p)
 | exc x h => exact fun ρ' cls dx H' e1 e2 e3 => p ρ' σ cls dx H' e1 e2 (rs.mono e1) e3
 | bad => exact p
end
def excOut (c : Nat) (zs : List Z) (s : ZS) (h : ZH) : OutS := match asDs zs with
 | some xs => if xs.length = (clsFlds c).length ∧ 0 < xs.length ∧ xs.length ≤ 100 then .exc ⟨c, xs.reverse⟩ s h else .bad
 | none => .bad
def dRaiseX (c : Nat) (d : DA) : DS := fun s h => (d s h).bndS s fun zs h1 => excOut c zs s h1
structure ExT (P : Program) (w : World) (K : PySem.W.Frag) (mg : Str → Option Value) (base : Heap) (g : G) (k c : Nat) : Prop where
 ex : ∃ fI fd ps, PySem.W.findIn K (.ref (g.cad c)) "__init__" = some (some (.ref fI)) ∧ PySem.W.typeIn K (.ref fI) = some (.type "function") ∧ FnOk P w K mg base (L2.CX P w) k fI fd ps (spExc (g.cad c) ((clsFlds c).reverse.map fnm)) ∧ Binds K fd ps []
 ox : OexC K (g.cad c)
 hx : g.hasX c = true
theorem ExT.mono {P : Program} {w : World} {K : PySem.W.Frag} {mg : Str → Option Value} {base : Heap} {g : G} {k j c : Nat} (T : ExT P w K mg base g k c) (h : k ≤ j) : ExT P w K mg base g j c := by
 obtain ⟨⟨fI, fd, ps, h1, h2, h3, h4⟩, h5, h6⟩ := T
 exact ⟨⟨fI, fd, ps, h1, h2, h3.mono h, h4⟩, h5, h6⟩
theorem passesNo {X : Cx} : Passes (L2.CX X.prog X.w) X (fun _ _ _ => False) := fun pins σ H s e s' I c => by
 obtain ⟨_, _, _, _, _, _, _, _, _, _, _, _, q⟩ := c
 exact q.elim
section
variable {g : G} {F : Fr} {X : Cx} {W : WX} {e : Expr} {es : List Expr} {d : DA} {pos pos' p : Pos} {k c : Nat} {x : Str}
theorem z_raiseX (c : Nat) (hK : X.K = g.K) (T : ExT X.prog X.w X.K X.mg X.base g k c) (hc : X.calm = true) (hr : Room (k + 1) X.A) (tk : Takes X W) (hg : Gl X x) (hm : X.mg x = some (.ref (g.cad c))) (ha : ZA g F X W (e :: es) d)
   (hdb : (x == ("__debug__" : Str)) = false := by decide) (he : starEach (e :: es) X.env = (false, eval e X.env) :: starEach es X.env := by rfl) (hpl : (backTo pos (starEach es X.env)).any (·.1) = false := by rfl) :
   ZS1 g F X W (.Raise (some (.Call (.Name x p) (e :: es) [] pos)) none pos') (dRaiseX c d) := by
 obtain ⟨fI, fd, ps, iC, tI, F1, bi⟩ := T.ex
 refine PS.imp (ps_raise hc tk (pmk_oex T.ox iC tI F1 hr bi .nil passesNo hg hm ha hdb he hpl)) fun D σ H ⟨ρ, zσ, zh, RH, RS, p⟩ => ?_
 refine ⟨ρ, zσ, zh, RH, RS, PostA.toS RS p fun ρ1 zs zh1 vs H1 e1 R1 rzs p1 => ?_⟩
 unfold excOut at p1
 cases kd : asDs zs with
 | none => rw [kd] at p1; exact p1.elim
 | some xs =>
   rw [kd] at p1
   dsimp only at p1
   split at p1
   · rename_i hl
     have rd := asDs_ok kd rzs
     have lv := rd.length
     refine ⟨by omega, fun a na => ⟨a, vs ++ [], rfl, ?_, upd_same, fun dx H' n ne h1 h2 h3 => ⟨rfl, dx, _, h1, h2, ?_, ?_⟩⟩⟩
     · rw [List.append_nil, List.length_map, List.length_reverse]
       omega
     · rw [upd_ne ne] at n
       exact n
     · rw [upd_ne ne] at n
       have eH : upd (del H' a) dx (.xd ((((clsFlds c).reverse.map fnm).zip (vs ++ [])).reverse)) = upd H1 dx (.xd ((((clsFlds c).reverse.map fnm).zip (vs ++ [])).reverse)) := by
         funext b
         by_cases hb : b = dx
         · rw [hb, upd_same, upd_same]
         · rw [upd_ne hb, upd_ne hb]
           by_cases hba : b = a
           · rw [hba, del_same, na]
           · rw [del_ne hba, h3 b hba hb, upd_ne hba]
       rw [eH, List.append_nil]
       obtain ⟨R2, e2, nu⟩ := R1.newF (o := .xd ((((clsFlds c).reverse.map fnm).zip vs).reverse)) n
       refine p1 ρ1 σ _ _ _ e2 R2 ((RS.mono e1).mono e2) ⟨rfl, T.hx, .inr ⟨fun z => ?_, dx, _, rfl, nu, upd_same, ?_, ?_⟩⟩
       · have := congrArg List.length z
         simp at this
         rw [this] at hl
         simp at hl
       · have e3 : ∀ l : List Str, l.length = vs.length → (l.zip vs).reverse.map (fun z => z.1) = l.reverse := fun l hl => by
           rw [List.map_reverse]
           exact congrArg List.reverse (List.map_fst_zip (by omega))
         rw [e3 _ (by rw [List.length_map, List.length_reverse]; omega), ← List.map_reverse, List.reverse_reverse]
       · have e3 : ∀ l : List Str, l.length = vs.length → (l.zip vs).reverse.map (fun z => z.2) = vs.reverse := fun l hl => by
           rw [List.map_reverse]
           exact congrArg List.reverse (List.map_snd_zip (by omega))
         rw [e3 _ (by rw [List.length_map, List.length_reverse]; omega)]
         exact (RDs.mono e2.stb _ _ rd).back
   · exact p1.elim
end
end Zl
end
section
namespace Zl
open PySem PySem.Spec PyProof.Rows L2
def Fr.at_ (F : Fr) (ρ : List Addr) (zh : ZH) (H : Hp) : Fr := ⟨F.P, UO F ρ zh, H⟩
section
variable {g : G} {F : Fr} {ρ ρ0 ρ1 : List Addr} {zh zh0 zh1 : ZH} {H H0 H1 : Hp} {W : WX} {D : Ends}
theorem RelH.enter (r : RelH g F ρ zh H) : RelH g (F.at_ ρ zh H) ρ zh H :=
 ⟨r.len, r.nd, r.own, fun a h => ⟨rfl, let ⟨e, o, k⟩ := r.prot a h; ⟨o, e.trans k⟩⟩, r.notp, r.trk, Stb.refl⟩
theorem RelH.leave (r0 : RelH g F ρ0 zh0 H0) (r : RelH g (F.at_ ρ0 zh0 H0) ρ zh H) : RelH g F ρ zh H :=
 ⟨r.len, r.nd, r.own, fun a h => ⟨(r.prot a h).1.trans (r0.prot a h).1, (r0.prot a h).2⟩, r.notp, r.trk, r0.stb.trans r.stb⟩
theorem Ext.leave (e : Ext (F.at_ ρ0 zh0 H0) ρ zh H ρ1 zh1 H1) : Ext F ρ zh H ρ1 zh1 H1 := ⟨e.pre, e.stb, e.trk, e.fresh⟩
theorem PostS.enter (r0 : RelH g F ρ0 zh0 H0) {out : OutS} (p : PostS g F W ρ zh H out D) : PostS g (F.at_ ρ0 zh0 H0) W ρ zh H out D := by
 cases out with
 | nx s h => exact fun ρ' v H' e r => p ρ' v H' e.leave (r0.leave r)
 | rt s h => exact fun ρ' v H' e r => p ρ' v H' e.leave (r0.leave r)
 | bk s h => exact fun ρ' v H' e r => p ρ' v H' e.leave (r0.leave r)
 | ct s h => exact fun ρ' v H' e r => p ρ' v H' e.leave (r0.leave r)
 | exc x s h => exact fun ρ' v c d H' e r => p ρ' v c d H' e.leave (r0.leave r)
 | bad => exact p
end
section
variable {g : G} {F : Fr} {X : Cx} {W : WX} {a b c e : Expr} {es : List Expr} {da db dc : DE} {pos : Pos} {ρ : List Addr} {zσ : ZS} {zh : ZH} {σ : L2.St} {H : Hp}
theorem z_tryAsX {x n : Str} {cv : Value} {body suite : List Stmt} {b₀ : Stmt} {np pos' : Pos} {db : DS} {su : Addr → ZX → DS} {hit : Hit} (i : Nat) (hs : X.stack = X.env :: X.outer) (hf : X.env.frame = some X.env.locals) (hN : X.N.Nodup) (hc : Names X x cv) (tk : Takes X W) (hh : HitOk X.K g cv hit)
   (hb : ∀ (W' : WX) (pn : List (Addr × Obj)) (xe : Value → Shared → Prop), Takes (X.tr pn xe) W' → PassesOwn (model X.prog X.w) X.A X.env xe → ZSs g F (X.tr pn xe) W' body db)
   (hsu : ∀ (F' : Fr) (a : Addr) (oe : Obj) (cls : Value) (d : Option Addr) (pn : List (Addr × Obj)) (x : ZX), RX g F'.U0 F'.H0 x cls d → hit x.c = some true → Zc cls d oe → (∃ vs, oe.data = .fields vs) → ZSs g F' (X.suite a ((a, oe) :: pn)) W0 (b₀ :: suite) (su a x))
   (hi : X.N[i]? = some n := by rfl) (hln : X.env.kindOf n = some .local := by rfl) :
   ZS1 g F X W (.Try body [.ExceptHandler (some (.Name x np)) (some n) (b₀ :: suite) pos'] [] [] pos) (dTryAs db hit i su) := by
 refine PS.imp (ps_try_as (ts := fun a cls d D σ H => ∃ (F' : Fr) (x : ZX), RX g F'.U0 F'.H0 x cls d ∧ hit x.c = some true ∧ lowS g F' W0 (su a x) D σ H) (tb := fun W' => lowS g F W' db) hs hf hN hi hln hc tk hb fun a oe cls d pn z1 z2 => ⟨fun pins s σ H D I ⟨F', x, er, et, q⟩ => (hsu F' a oe cls d pn x er et z1 z2).run pins s σ H D I q⟩) fun D σ H ⟨ρ, zσ, zh, RH, RS, p⟩ => ?_
 refine ⟨ρ, zσ, zh, RH, RS, ?_⟩
 unfold dTryAs at p
 cases k : db zσ zh with
 | exc x s1 h1 =>
   rw [k] at p
   simp only at p
   intro ρ1 σ1 cls dx H1 e1 R1 S1 rx
   have hx := rx.2.1
   cases kh : hit x.c with
   | none => rw [kh] at p; exact p.elim
   | some b =>
     rw [kh] at p
     refine ⟨b, by rw [rx.1]; exact hh _ _ hx kh, fun hb a ha => ?_, fun hb => ?_⟩
     · subst hb
       refine ⟨F.at_ ρ1 h1 H1, x, rx, kh, ρ1, s1.set i (some (.e a)), h1, R1.enter, S1.set (z := .e a) rfl, (wipeS_post (W := W) (PostS.shift e1 ?_)).enter R1⟩
       have p : PostS g F W ρ zh H (sameAll fun a => wipeS i (su a x (s1.set i (some (.e a))) h1)) D := p
       unfold sameAll at p
       split at p
       · rename_i hall
         have e := hall a
         dsimp only at e
         rw [e]
         exact p
       · exact p.elim
     · subst hb
       exact p ρ1 σ1 cls dx H1 e1 R1 S1 rx
 | bad => rw [k] at p; exact p.elim
 | nx s h => rw [k] at p; exact p
 | rt s h => rw [k] at p; exact p
 | bk s h => rw [k] at p; exact p
 | ct s h => rw [k] at p; exact p
def excAt (a : Addr) (o : Option D) (z : Z) (h : ZH) : Out Z := match z with
 | .e a' => if a' = a then match o with
   | some x => .ok (.d x) h
   | none => .bad
   else .bad
 | _ => .bad
def dIsX (a : Addr) (b : Option Bool) (d : DE) : DE := fun s h => (d s h).bnd fun z h1 => excAt a (b.map D.bl) z h1
def dFldX (a : Addr) (x : ZX) (f : Nat) (d : DE) : DE := fun s h => (d s h).bnd fun z h1 => excAt a (((clsFlds x.c).zip x.vs).lookup f) z h1
theorem rx_stands {x : ZX} {cls : Value} {d : Option Addr} (rx : RX g F.U0 F.H0 x cls d) (R : RelH g F ρ zh H) : RX g (UO F ρ zh) H x cls d := by
 obtain ⟨h1, h2, h3⟩ := rx
 refine ⟨h1, h2, h3.imp id fun ⟨n, dd, fvs, e, nu, hd, k, r⟩ => ?_⟩
 obtain ⟨h4, h5⟩ := R.stb dd _ hd nu
 exact ⟨n, dd, fvs, e, h5, h4, k, RDs.mono R.stb _ _ r⟩
theorem inst_exc {x : ZX} {cls : Value} {d : Option Addr} {a : Addr} {oe : Obj} {pn pins : List (Addr × Obj)} {s : Shared} (rx : RX g (UO F ρ zh) H x cls d) (hz : Zc cls d oe) (hf : ∃ vs, oe.data = .fields vs) (I : Inv (X.suite a ((a, oe) :: pn)) pins σ H s) :
   ∃ od, PySem.W.InstAt s.heap a oe (g.cad x.c) od ∧ (∀ dd fvs, d = some dd → H dd = some (.xd fvs) → ∃ o2, od = some o2 ∧ s.heap.get? dd = some o2) := by
 obtain ⟨ha, _⟩ := I.pin (a, oe) (List.mem_append_left _ List.mem_cons_self)
 obtain ⟨vs, hd⟩ := hf
 obtain ⟨e1, _, h3⟩ := rx
 subst e1
 have nc : PySem.W.notCls oe = true := by unfold PySem.W.notCls; rw [hd]
 rcases h3 with ⟨_, rfl⟩ | ⟨_, dd, fvs, rfl, _, hh, _⟩
 · exact ⟨none, ⟨ha, hz.1, nc, by rw [hz.2]; trivial⟩, fun dd fvs q => nomatch q⟩
 · have hx : ObjOk (X.suite a ((a, oe) :: pn)).prog (X.suite a ((a, oe) :: pn)).w H s.heap dd (.xd fvs) := I.hok dd _ hh
   obtain ⟨mA, hns, _⟩ := hx
   obtain ⟨od, ho, _⟩ := lookIn_ns hns
   exact ⟨some od, ⟨ha, hz.1, nc, by rw [hz.2]; exact ho⟩, fun d2 f2 q _ => by cases q; exact ⟨od, rfl, ho⟩⟩
theorem z_isX {T o : Expr} {p : Pos} {a : Addr} {oe : Obj} {pn : List (Addr × Obj)} {x : ZX} {cls : Value} {dx : Option Addr} {cv : Value} {v : V} {bb : Option Bool} (rx : RX g F.U0 F.H0 x cls dx) (C : ExcC X.K (g.cad x.c)) (hz : Zc cls dx oe) (hf : ∃ vs, oe.data = .fields vs)
   (hb : ∀ b, bb = some b → PySem.W.kitOne X.K (.ref (g.cad x.c)) cv = some b) (hcv : ∀ u, RelV v u → u = cv) (hg : Gl X "isinstance") (hm : X.mg "isinstance" = none) (hT : PE (X.suite a ((a, oe) :: pn)) T (tC v)) (ha : ZE g F (X.suite a ((a, oe) :: pn)) W o da)
   (h1 : starEach [o, T] X.env = (false, eval o X.env) :: starEach [T] X.env := by rfl) (h2 : starEach [T] X.env = (false, eval T X.env) :: starEach [] X.env := by rfl) (hpl : (backTo pos (starEach [T] X.env)).any (·.1) = false := by rfl) :
   ZE g F (X.suite a ((a, oe) :: pn)) W (.Call (.Name "isinstance" p) [o, T] [] pos) (dIsX a bb da) := by
 have call : CallR (X.suite a ((a, oe) :: pn)) (.builtin "isinstance") (fun xs H Q => ∃ c cv b ρ zh, xs = [.ref a, c] ∧ (∀ u, RelV c u → u = cv) ∧ RX g (UO F ρ zh) H x cls dx ∧ PySem.W.kitOne X.K (.ref (g.cad x.c)) cv = some b ∧ Q (.bl b) H) := by
   intro pins s σ H xs us Q I r h
   obtain ⟨c, cv, b, ρ, zh, rfl, hcv, rx, e, q⟩ := h
   cases r with
   | cons ra rr =>
     cases rr with
     | cons rt rr =>
       cases rr
       cases ra
       have ec := hcv _ rt
       subst ec
       obtain ⟨od, J, _⟩ := inst_exc rx hz hf I
       obtain ⟨cd, hcd, _⟩ := PySem.W.any_some C.hd
       exact PySem.W.kia_one (PySem.W.kitx_exc (by rw [hcd]; rfl) C.hg C.hk C.hs C.ha C.hn C.ht C.hm) I.kIn J e (fun z => nomatch z) fun tk => ⟨.bl b, H, I.kept (t' := tk) fun _ _ z => z, rfl, q⟩
 refine PE.imp (pe_callB (X := X.suite a ((a, oe) :: pn)) call hg hm (by decide +kernel) (pa_cons ha (pa_cons hT pa_nil h2) h1) (by decide) (by decide) h1 hpl) fun σ H Q ⟨ρ, zσ, zh, RH, RS, p⟩ => ?_
 refine ⟨ρ, zσ, zh, RH, RS, Post.bnd p fun ρ1 z zh1 v1 H1 e1 R1 rz p1 => ?_⟩
 unfold excAt at p1
 cases z with
 | d _ => exact p1.elim
 | r _ => exact p1.elim
 | e a' =>
   simp only at p1
   split at p1
   · rename_i ea
     subst ea
     cases bb with
     | none => exact p1.elim
     | some b =>
       have rz : v1 = .ref a' := rz
       subst rz
       exact ⟨v, cv, b, ρ1, zh1, rfl, hcv, rx_stands rx R1, hb b rfl, Post.done R1 p1 (rz_bl.mpr rfl)⟩
   · exact p1.elim
theorem z_fldX {o : Expr} {n : Str} {a : Addr} {oe : Obj} {pn : List (Addr × Obj)} {x : ZX} {cls : Value} {dx : Option Addr} (f : Nat) (rx : RX g F.U0 F.H0 x cls dx) (C : XfC X.K (g.cad x.c)) (hz : Zc cls dx oe) (hf : ∃ vs, oe.data = .fields vs) (hno : PySem.W.findIn X.K (.ref (g.cad x.c)) n = some none)
   (ha : ZE g F (X.suite a ((a, oe) :: pn)) W o da) (hn : n = fnm f := by decide +kernel) (hb : attributeBase o n X.env (eval o X.env) = eval o X.env := by rfl) : ZE g F (X.suite a ((a, oe) :: pn)) W (.Attribute o n pos) (dFldX a x f da) := by
 subst hn
 refine PE.imp (pe_xf (a := a) C hno (cls := cls) (d := dx) hz hf ha hb) fun σ H Q ⟨ρ, zσ, zh, RH, RS, p⟩ => ?_
 refine ⟨ρ, zσ, zh, RH, RS, Post.bnd p fun ρ1 z zh1 v1 H1 e1 R1 rz p1 => ?_⟩
 unfold excAt at p1
 cases z with
 | d _ => exact p1.elim
 | r _ => exact p1.elim
 | e a' =>
   simp only at p1
   split at p1
   · rename_i ea
     subst ea
     cases kl : ((clsFlds x.c).zip x.vs).lookup f with
     | none => rw [kl] at p1; exact p1.elim
     | some y =>
       rw [kl] at p1
       have rz : v1 = .ref a' := rz
       subst rz
       obtain ⟨h1, h2, h3⟩ := rx_stands rx R1
       rcases h3 with ⟨ev, _⟩ | ⟨_, dd, fvs, ed, nu, hd, hk, r⟩
       · rw [ev] at kl
         simp at kl
       · obtain ⟨_, u, l1, l2⟩ := look_d hk r kl
         exact ⟨rfl, h1, dd, fvs, u, ed, hd, l1, Post.done R1 p1 l2⟩
   · exact p1.elim
end
end Zl
end
section
namespace Zl
open PySem PySem.Spec PyProof.Rows L2
structure RoomC (k : Nat) (A : Around) : Prop where
 dp : A.depth + 3 * k + 5 < recursionLimit
 un : A.units + 16 * k + 200 < cLine
theorem RoomC.mono {j k : Nat} {A : Around} (r : RoomC k A) (h : j ≤ k) : RoomC j A := ⟨Nat.lt_of_le_of_lt (by omega) r.dp, Nat.lt_of_le_of_lt (by omega) r.un⟩
theorem RoomC.deeper {k : Nat} {A : Around} (r : RoomC (k + 1) A) (env : Env) : RoomC k (A.deeper env) :=
 ⟨Nat.lt_of_le_of_lt (by show A.depth + 1 + 3 * k + 5 ≤ A.depth + 3 * (k + 1) + 5; omega) r.dp, Nat.lt_of_le_of_lt (by show A.units + 3 + 16 * k + 200 ≤ A.units + 16 * (k + 1) + 200; omega) r.un⟩
structure FnC (P : Program) (w : World) (K : PySem.W.Frag) (mg : Str → Option Value) (base : Heap) (k : Nat) (f : Addr) (fd : FuncData) (ps : List Str) (sp : Sp) : Prop where
 len : ∀ vs H Q E, sp vs H Q E → vs.length = ps.length
 run : ∀ (A : Around) (outer : List Env) (s : Shared) (H : Hp) (args : Args) (us : List Value) (vs : List V) (Q : VK) (E : XK), RoomC k A → Env0 P w K mg base A outer s H → BindsTo s fd args (ps.zip us) → Vals vs us → sp vs H Q E →
   codeAny (model P w) A (.call (.ref f) args) (CR (L2.CX P w) outer P w H s Q E) s
section
variable {P : Program} {w : World} {K : PySem.W.Frag} {mg : Str → Option Value} {base : Heap} {k : Nat} {f : Addr} {name qual : Str} {params : Arguments} {body : List Stmt} {scope : Scope} {dV kV doc pm cdv ct oc : Value} {an od : Option Addr} {osl : Array (Option Value)} {N ps : List Str} {sp : Sp}
end
section
variable {g : G} {F : Fr} {X : Cx} {W : WX} {k : Nat} {f : Addr} {fd : FuncData} {ps N : List Str} {M : Sem} {e o : Expr} {es : List Expr} {d : DA} {da : DE} {x qual : Str} {p pos : Pos}
structure FnTC (P : Program) (w : World) (K : PySem.W.Frag) (mg : Str → Option Value) (base : Heap) (g : G) (k : Nat) (f : Addr) (fd : FuncData) (ps : List Str) (M : Sem) : Prop where
 ok : FnC P w K mg base k f fd ps (lowF g M)
 kp : PySem.W.keepIn K (.ref f) = true
 bi : Binds K fd ps []
theorem FnTC.mono {P : Program} {w : World} {K : PySem.W.Frag} {mg : Str → Option Value} {base : Heap} {j : Nat} (T : FnTC P w K mg base g k f fd ps M) (h : k ≤ j) : FnTC P w K mg base g j f fd ps M :=
 ⟨⟨T.ok.len, fun A outer s H args us vs Q E hr => T.ok.run A outer s H args us vs Q E (hr.mono h)⟩, T.kp, T.bi⟩
def CalC (P : Program) (w : World) (g : G) (mg : Str → Option Value) (base : Heap) (k : Nat) (x : Str) (ps : List Str) (M : Sem) : Prop := ∃ f fd, mg x = some (.ref f) ∧ FnTC P w g.K mg base g k f fd ps M
theorem CalC.mono {P : Program} {w : World} {mg : Str → Option Value} {base : Heap} {j : Nat} (T : CalC P w g mg base k x ps M) (h : k ≤ j) : CalC P w g mg base j x ps M := let ⟨f, fd, a, b⟩ := T; ⟨f, fd, a, b.mono h⟩
end
end Zl
end
section
namespace Zl
open PySem PySem.Spec PyProof.Rows L2
theorem fileB_ok {P : Program} {K : PySem.W.Frag} {cd : Value} {file : Str} (h : fileB K cd file = true) (hP : P.main.file = file) : CodeFile P K cd := by
 unfold fileB at h
 split at h
 · rename_i c
   split at h
   · rename_i oc od vs sl lk
     split at h
     · rename_i z tk hv
       have ez : z = file := of_decide_eq_true h
       exact ⟨c, oc, od, vs, sl, z, tk, rfl, lk, hv, by rw [ez, hP]; exact beq_self_eq_true _⟩
     · cases h
   · cases h
 · cases h
theorem cellB_ok {K : PySem.W.Frag} {cc D : Addr} (h : cellB K cc D = true) : ClsCell K cc D := by
 unfold cellB at h
 split at h
 · rename_i oc od D' sl lk
   have e : D' = D := of_decide_eq_true h
   subst e
   exact ⟨oc, od, sl, lk⟩
 · cases h
theorem DefC.defS {P : Program} {K : PySem.W.Frag} {d : DefC} (e : fnWC K (d.ad K) = d.val) (c : d.ok K = true) (hP : P.main.file = d.file) : ∃ fd, DefS P K (d.cl K) (d.ad K) d.name d.qual d.params d.body d.scope fd := by
 obtain ⟨kp, c2⟩ := He.ba c
 obtain ⟨kc, c3⟩ := He.ba c2
 unfold fnWC at e
 cases q : K.lookup (d.ad K) with
 | none => rw [q] at c3; cases c3
 | some o =>
   obtain ⟨oc, od, dt, osl⟩ := o
   rw [q] at c3 e
   cases dt with
   | func fd =>
     obtain ⟨n1, n2, n3, n4, n5, n6, n7, n8, n9, n10, n11, n12, n13, n14, n15⟩ := fd
     have e2 : (some (n1, n2, n3, n4, n5, n6, n7.map (fun p => (p.1, 0)), n15) : He.FnW) = some (d.name, d.qual, d.params, .stmts d.body, d.scope, mainGlobals, [(("__class__" : Str), 0)], builtinsNs) := e
     simp only [Option.some.injEq, Prod.mk.injEq] at e2
     obtain ⟨h1, h2, h3, h4, h5, h6, h7, h8⟩ := e2
     subst h1 h2 h3 h4 h5 h6 h8
     obtain ⟨k1, c4⟩ := He.ba c3
     obtain ⟨k2, c5⟩ := He.ba c4
     obtain ⟨k3, k4⟩ := He.ba c5
     have en : ∃ cc, n7 = [(("__class__" : Str), cc)] ∧ cellB K cc (d.cl K) = true := by
       match n7, h7, k4 with
       | [(nm, cc)], h7, k4 =>
         have h7 : [(nm, 0)] = [(("__class__" : Str), 0)] := h7
         simp only [List.cons.injEq, Prod.mk.injEq, and_true] at h7
         exact ⟨cc, by rw [h7], k4⟩
     obtain ⟨cc, e7, kcc⟩ := en
     subst e7
     cases n8 <;> first | exact ⟨_, ⟨oc, od, osl, n9, n10, n11, n12, n13, n14, cc, rfl, q, k1, cellB_ok kcc, fileB_ok k2 hP⟩, Option.isSome_iff_exists.mp kc, kp⟩ | cases k3
   | _ => cases c3
theorem DefS.binds {P : Program} {K : PySem.W.Frag} {D f : Addr} {name qual : Str} {params : Arguments} {body : List Stmt} {scope : Scope} {fd : FuncData} {ps : List Str} (T : DefS P K D f name qual params body scope fd)
   (h : ∀ kV doc pm an cdv ct cc, ∀ us : List Value, us.length = ps.length → bindArgs (PySem.W.ksFn name qual params body scope .none kV doc pm an cdv ct cc) ⟨us, []⟩ = pure (ps.zip us)) : Binds K fd ps [] := by
 obtain ⟨oc, od, osl, kV, doc, pm, an, cdv, ct, cc, rfl, _⟩ := T.ex
 exact Binds.all fun us hl => h _ _ _ _ _ _ _ us hl
section
variable {fa : List He.Fa} {ex : Exs} {fn : List He.DefD} {st : List DefZ} {su : List DefC} {K : PySem.W.Frag}
theorem SaysS.all (c : SaysS fa ex fn st su K) : ((fa.all fun f => f.ok K) && ((ex.all fun f => f K) && ((fn.all fun d => d.ok K) && ((st.all fun d => d.ok K) && su.all fun d => d.ok K)))) = true := congrArg (fun z : He.AlD => z.1) c
theorem SaysS.fact (c : SaysS fa ex fn st su K) (i : Nat) {f : He.Fa} (h : fa[i]? = some f := by rfl) : f.ok K = true := List.all_eq_true.mp (He.ba c.all).1 f (List.mem_of_getElem? h)
theorem SaysS.xs (c : SaysS fa ex fn st su K) (i : Nat) {f : PySem.W.Frag → Bool} (h : ex[i]? = some f := by rfl) : f K = true := List.all_eq_true.mp (He.ba (He.ba c.all).2).1 f (List.mem_of_getElem? h)
theorem SaysS.lists (c : SaysS fa ex fn st su K) : ((fn.map fun d => He.fnW K d.at_) = fn.map He.DefD.val ∧ (st.map fun d => fnWA K (d.ad K)) = st.map DefZ.val) ∧ (su.map fun d => fnWC K (d.ad K)) = su.map DefC.val := by
 obtain ⟨h1, h2⟩ := List.append_inj (congrArg (fun z : He.AlD => z.2) c) (by simp)
 exact ⟨List.append_inj h1 (by simp), h2⟩
theorem SaysS.def_ (c : SaysS fa ex fn st su K) (i : Nat) {d : He.DefD} (h : fn[i]? = some d := by rfl) : ∃ fd, FunD K d.name d.qual d.params d.body d.scope (d.dvs K) (d.kws K) (He.fAd K d.at_) fd := by
 have c2 := (He.ba (He.ba (He.ba c.all).2).2).1
 have e2 : (fn.map fun d => He.fnW K d.at_)[i]? = (fn.map He.DefD.val)[i]? := by rw [c.lists.1.1]
 rw [List.getElem?_map, List.getElem?_map, h] at e2
 exact He.DefD.funD (Option.some.inj e2) (List.all_eq_true.mp c2 d (List.mem_of_getElem? h))
theorem SaysS.su_ (c : SaysS fa ex fn st su K) (i : Nat) {d : DefC} (h : su[i]? = some d := by rfl) : fnWC K (d.ad K) = d.val ∧ d.ok K = true := by
 have c2 := (He.ba (He.ba (He.ba (He.ba c.all).2).2).2).2
 have e2 : (su.map fun d => fnWC K (d.ad K))[i]? = (su.map DefC.val)[i]? := by rw [c.lists.2]
 rw [List.getElem?_map, List.getElem?_map, h] at e2
 exact ⟨Option.some.inj e2, List.all_eq_true.mp c2 d (List.mem_of_getElem? h)⟩
end
theorem xOex_ok {x : Str} {K : PySem.W.Frag} (h : xOex x K = true) : OexC K (He.ga K x) := by
 obtain ⟨h1, h⟩ := He.ba h
 obtain ⟨h2, h⟩ := He.ba h
 obtain ⟨h3, h⟩ := He.ba h
 obtain ⟨h4, h5⟩ := He.ba h
 refine ⟨?_, He.eqO_ok h2, of_decide_eq_true h3, of_decide_eq_true h4, h5⟩
 split at h1
 · rename_i dd cd sl lk
   split at h1
   · rename_i C' bm k0 k1 k2 k3 n k5 hm hs
     obtain ⟨a1, h1⟩ := He.ba h1
     obtain ⟨a2, h1⟩ := He.ba h1
     obtain ⟨a3, h1⟩ := He.ba h1
     obtain ⟨a4, a5⟩ := He.ba h1
     have e1 : C' = He.ga K x := of_decide_eq_true a1
     have e2 : n = "ValueError.__new__" := of_decide_eq_true a2
     have e3 : cd.hasDel = false := by simpa using a3
     subst e2
     obtain ⟨nm, bs, mro, ns, qn, hd, sn, sb, ab, col, del⟩ := cd
     dsimp only at hm e3 a4
     subst hm e3 a4
     have es : sl = #[k0, k1, k2, k3, some (.builtin "ValueError.__new__"), k5] := by
       rw [← hs]
     rw [es, e1] at lk
     exact ⟨nm, qn, ns, bs, bm, sn, sb, ab, col, dd, k0, k1, k2, k3, k5, lk, a5⟩
   · cases h1
 · cases h1
theorem xSupV_ok {x : Str} {K : PySem.W.Frag} (h : xSupV x K = true) : SupV K (He.ga K x) (He.ga K x) := by
 obtain ⟨h1, h⟩ := He.ba h
 obtain ⟨h2, h⟩ := He.ba h
 obtain ⟨h3, h⟩ := He.ba h
 obtain ⟨h4, h5⟩ := He.ba h
 exact ⟨xOex_ok h5, of_decide_eq_true h1, He.eqO_ok h2, of_decide_eq_true h3, He.eqO_ok h4⟩
theorem xIni_ok {x : Str} {K : PySem.W.Frag} (h : xIni x K = true) : PySem.W.findIn K (.ref (He.ga K x)) "__init__" = some (some (.ref (He.fAd K (x, some "__init__")))) ∧ PySem.W.typeIn K (.ref (He.fAd K (x, some "__init__"))) = some (.type "function") := by
 obtain ⟨h1, h2⟩ := He.ba h
 exact ⟨He.eqO_ok h1, of_decide_eq_true h2⟩
theorem xfc_of {K : PySem.W.Frag} {C : Addr} (h : ExcC K C) : XfC K C := ⟨h.hg, h.hk, h.hs, h.hd⟩
end Zl
end
section
namespace Zl
open PySem PySem.Spec PyProof.Rows L2
open TL
section
variable {QZ : Z → ZH → Prop} {QB : Bool → ZH → Prop} {QA : List Z → ZH → Prop} {E : ZX → ZH → Prop} {K : KS} {s : ZS} {h : ZH} {da db dc : DE} {ds : DA} {d d' : DS} {ta tb : DT}
theorem wps_raiseX {c : Nat} : (dRaiseX c ds s h).wp K = (ds s h).wp (fun zs h1 => optP (asDs zs) fun xs => (xs.length = (clsFlds c).length ∧ 0 < xs.length ∧ xs.length ≤ 100) ∧ K.ex ⟨c, xs.reverse⟩ s h1) (fun x h1 => K.ex x s h1) := by
 unfold dRaiseX
 rw [wp_bndS]
 refine wp_fun fun zs h1 => ?_
 unfold excOut
 cases asDs zs with
 | none => rw [optP_none]; exact wps_bad
 | some xs =>
   rw [optP_some]
   dsimp only
   by_cases hc : xs.length = (clsFlds c).length ∧ 0 < xs.length ∧ xs.length ≤ 100
   · rw [if_pos hc, wps_exc]
     exact propext ⟨fun q => ⟨hc, q⟩, fun q => q.2⟩
   · rw [if_neg hc, wps_bad]
     simp [hc]
theorem wp_isX {a : Addr} {b : Option Bool} : (dIsX a b da s h).wp QZ E = (da s h).wp (fun z h1 => (excAt a (b.map D.bl) z h1).wp QZ E) E := by
 unfold dIsX
 rw [wp_bnd]
theorem wp_fldX {a : Addr} {x : ZX} {f : Nat} : (dFldX a x f da s h).wp QZ E = (da s h).wp (fun z h1 => (excAt a (((clsFlds x.c).zip x.vs).lookup f) z h1).wp QZ E) E := by
 unfold dFldX
 rw [wp_bnd]
theorem excAt_e {a : Addr} {x : D} : excAt a (some x) (.e a) h = .ok (.d x) h := by
 unfold excAt
 simp
theorem map_bl {b : Bool} : (some b).map D.bl = some (.bl b) := id rfl
theorem tryA_ex {hit : Hit} {i : Nat} {su : Addr → ZX → DS} {x : ZX} (hx : hit x.c = some true) : (K.tryA hit i su).ex x s h = (sameAll fun a => wipeS i (su a x (s.set i (some (.e a))) h)).wp K := by
 show (match hit x.c with
   | some true => _
   | some false => _
   | none => False) = _
 rw [hx]
theorem sameRt {f : Addr → OutS} {z : Z} {h' : ZH} (w : ∀ a, (f a).wp ⟨fun _ _ => False, fun z1 h1 => z1 = z ∧ h1 = h', fun _ _ => False, fun _ _ => False, fun _ _ _ => False⟩) (q : K.rt z h') : (sameAll f).wp K := by
 have e : ∀ a, f a = .rt z h' := fun a => by
   have w := w a
   cases k : f a with
   | rt z1 h1 => rw [k, wps_rt] at w; rw [w.1, w.2]
   | nx s h => rw [k, wps_nx] at w; exact w.elim
   | bk s h => rw [k, wps_bk] at w; exact w.elim
   | ct s h => rw [k, wps_ct] at w; exact w.elim
   | exc x s h => rw [k, wps_exc] at w; exact w.elim
   | bad => rw [k, wps_bad] at w; exact w.elim
 rw [sameAll_eq e, wps_rt]
 exact q
theorem wps_wipeS {i : Nat} {o : OutS} : (wipeS i o).wp K = o.wp ⟨fun s h => K.nx (s.set i none) h, K.rt, fun s h => K.bk (s.set i none) h, fun s h => K.ct (s.set i none) h, fun _ _ _ => False⟩ := by
 cases o with
 | nx s h => unfold wipeS; rw [wps_nx, wps_nx]
 | rt z h => unfold wipeS; rw [wps_rt, wps_rt]
 | bk s h => unfold wipeS; rw [wps_bk, wps_bk]
 | ct s h => unfold wipeS; rw [wps_ct, wps_ct]
 | exc x s h => unfold wipeS; rw [wps_bad, wps_exc]
 | bad => unfold wipeS; rw [wps_bad]; rw [wps_bad]
theorem cl_14 : (clsFlds 14).length = 1 := id rfl
theorem isx_v {c x : Nat} (hc : c ≤ 16) (hx : x ≤ 16) : isx c x = some (c == x || x == 0) := by
 unfold isx
 rw [if_pos ⟨hc, hx⟩]
end
end Zl
end
section
namespace Zl
open PySem PySem.Spec PyProof.Rows L2
open TL
section
variable {QZ : Z → ZH → Prop} {QB : Bool → ZH → Prop} {QA : List Z → ZH → Prop} {E : ZX → ZH → Prop} {K : KS} {s : ZS} {h : ZH} {da db dc : DE} {ds : DA} {d d' : DS} {ta tb : DT}
end
end Zl
end
section
namespace Zl
open PySem PySem.Spec PyProof.Rows L2
section
variable {g : G} {U : Addr → Prop} {H : Hp}
end
section
variable {g : G} {F : Fr} {X : Cx} {W : WX} {a b c e o f : Expr} {es : List Expr} {da db dc : DE} {d : DA} {pos apos cpos : Pos} {ρ : List Addr} {zσ : ZS} {zh : ZH} {σ : L2.St} {H : Hp}
theorem m2_ok {o e f : Expr} {m : Str} (h1 : attributeBase o m X.env (eval o X.env) = eval o X.env := by rfl)
 (h2 : ((backTo cpos (starEach [e, f] X.env)).all (fun x => !x.1) && (backToKw cpos (keywordEach [] X.env)).all (fun x => x.1.isSome)
 && decide (([e, f] : List Expr).length + ([] : List Keyword).length + (if ([] : List Keyword).isEmpty then 0 else 1) < 30)) = true := by rfl)
 (h3 : (apos.endLine == cpos.line) = true := by rfl) (h4 : backTo cpos (starEach [e, f] X.env) = [(false, eval e X.env), (false, eval f X.env)] := by rfl) : M2 X o m apos e f cpos := ⟨h1, h2, h3, h4⟩
end
end Zl
end
section
namespace Zl
open PySem PySem.Spec PyProof.Rows L2
inductive Lk (q : Hp → Prop) : Hp → Prop
 | done {H : Hp} : q H → Lk q H
 | lock {H : Hp} (d : Addr) (u : HO) : H d = some u → Mut (some u) → (∀ od, Lk q (upd H d (.frz od u))) → Lk q H
section
variable {g : G} {F : Fr}
end
section
variable {X : Cx} {CX : CXT} {k : Nat} {f C : Addr} {fd : FuncData} {ps : List Str} {sp : Sp} {E : L2.St → XK} {x : Str} {p pos : Pos} {t : TA} {e : Expr} {es : List Expr}
end
section
variable {CX : CXT} {k : Nat} {f C : Addr} {fd : FuncData} {ps : List Str} {sp : Sp} {dvs : List V} {ds : List Value} {E : L2.St → XK} {x : Str} {p : Pos} {t : TA}
end
end Zl
end
section
namespace Zl
open PySem PySem.Spec PyProof.Rows L2
open TL
section
variable {QZ : Z → ZH → Prop} {QB : Bool → ZH → Prop} {QA : List Z → ZH → Prop} {E : ZX → ZH → Prop} {K : KS} {s : ZS} {h : ZH} {da db dc : DE} {ds : DA} {d d' : DS} {ta tb : DT}
end
end Zl
end
section
namespace Zl
open PySem PySem.Spec PyProof.Rows L2
abbrev TSx := Addr → Value → Option Addr → TS
def wManyAs (K : PySem.W.Frag) (Wout : WX) (D : Ends) : List (Value × Nat × TSx) → WX
 | [] => Wout
 | (c, i, ts) :: r => fun cls d σ H => ∃ b, PySem.W.exmOne K cls c = some b ∧
     (b = true → ∀ a, H a = none → ts a cls d { nx := fun σ' H' => D.nx (σ'.set i none) H', rt := D.rt, bk := fun σ' H' => D.bk (σ'.set i none) H', ct := fun σ' H' => D.ct (σ'.set i none) H' } (σ.set i (some (.ref a))) H) ∧
     (b = false → wManyAs K Wout D r cls d σ H)
inductive HdsAs (X : Cx) : List ExceptHandler → List (Value × Nat × TSx) → Prop
 | nil : HdsAs X [] []
 | cons {x n : Str} {c : Value} {i : Nat} {ts : TSx} {b₀ : Stmt} {suite : List Stmt} {np pos' : Pos} {hds : List ExceptHandler} {l : List (Value × Nat × TSx)} (hc : Names X x c) (hi : X.N[i]? = some n) (hln : X.env.kindOf n = some .local)
     (hsu : ∀ (a : Addr) (oe : Obj) (cls : Value) (d : Option Addr) (pn : List (Addr × Obj)), Zc cls d oe → (∃ vs, oe.data = .fields vs) → PSs (X.suite a ((a, oe) :: pn)) (b₀ :: suite) (ts a cls d)) (r : HdsAs X hds l) :
     HdsAs X (.ExceptHandler (some (.Name x np)) (some n) (b₀ :: suite) pos' :: hds) ((c, i, ts) :: l)
section
variable {X : Cx} {body : List Stmt} {h₀ : ExceptHandler} {hds : List ExceptHandler} {l : List (Value × Nat × TSx)} {pos : Pos} {tb : WX → TS} {Wout : WX}
end
abbrev Cls := Hit × Nat × (Addr → ZX → DS)
noncomputable def chain : List Cls → ZX → DS
 | [], x, s, h => .exc x s h
 | (hit, i, su) :: r, x, s, h => match hit x.c with
   | some true => sameAll fun a => wipeS i (su a x (s.set i (some (.e a))) h)
   | some false => chain r x s h
   | none => .bad
inductive ZHds (g : G) (X : Cx) : List ExceptHandler → List Cls → List (Value × Nat × TSx) → Prop
 | nil : ZHds g X [] [] []
 | cons {x n : Str} {cv : Value} {i : Nat} {su : Addr → ZX → DS} {hit : Hit} {b₀ : Stmt} {suite : List Stmt} {np pos' : Pos} {hds : List ExceptHandler} {l : List Cls} {l' : List (Value × Nat × TSx)} (hc : Names X x cv) (hh : HitOk X.K g cv hit)
     (hsu : ∀ (F' : Fr) (a : Addr) (oe : Obj) (cls : Value) (d : Option Addr) (pn : List (Addr × Obj)) (x : ZX), RX g F'.U0 F'.H0 x cls d → hit x.c = some true → Zc cls d oe → (∃ vs, oe.data = .fields vs) → ZSs g F' (X.suite a ((a, oe) :: pn)) W0 (b₀ :: suite) (su a x))
     (r : ZHds g X hds l l') (hi : X.N[i]? = some n := by rfl) (hln : X.env.kindOf n = some .local := by rfl) :
     ZHds g X (.ExceptHandler (some (.Name x np)) (some n) (b₀ :: suite) pos' :: hds) ((hit, i, su) :: l)
       ((cv, i, fun a cls d D σ H => ∃ (F' : Fr) (x : ZX), RX g F'.U0 F'.H0 x cls d ∧ hit x.c = some true ∧ lowS g F' W0 (su a x) D σ H) :: l')
section
variable {g : G} {F : Fr} {X : Cx} {W : WX} {pos : Pos} {ρ : List Addr} {zσ : ZS} {zh : ZH} {σ : L2.St} {H : Hp}
theorem ZHds.as {hds : List ExceptHandler} {l : List Cls} {l' : List (Value × Nat × TSx)} (h : ZHds g X hds l l') : HdsAs X hds l' := by
 induction h with
 | nil => exact .nil
 | cons hc hh hsu r hi hln ih => exact .cons hc hi hln (fun a oe cls d pn z1 z2 => ⟨fun pins s σ H D I ⟨F', x, er, et, q⟩ => (hsu F' a oe cls d pn x er et z1 z2).run pins s σ H D I q⟩) ih
theorem ZHds.wish {hds : List ExceptHandler} {l : List Cls} {l' : List (Value × Nat × TSx)} (hl : ZHds g X hds l l') {D : Ends} {x : ZX} {s1 : ZS} {h1 : ZH} (p : PostS g F W ρ zh H (chain l x s1 h1) D)
   {ρ1 : List Addr} {σ1 : L2.St} {cls : Value} {dx : Option Addr} {H1 : Hp} (e1 : Ext F ρ zh H ρ1 h1 H1) (R1 : RelH g F ρ1 h1 H1) (S1 : RelS g (UO F ρ1 h1) H1 ρ1 s1 σ1) (rx : RX g (UO F ρ1 h1) H1 x cls dx) : wManyAs X.K W D l' cls dx σ1 H1 := by
 induction hl with
 | nil =>
   unfold chain at p
   exact p ρ1 σ1 cls dx H1 e1 R1 S1 rx
 | @cons xx n cv i su hit b₀ suite np pos' hds2 l2 l3 hc hh hsu r hi hln ih =>
   unfold chain at p
   have hx := rx.2.1
   cases kh : hit x.c with
   | none => rw [kh] at p; exact p.elim
   | some b =>
     rw [kh] at p
     refine ⟨b, by rw [rx.1]; exact hh _ _ hx kh, fun hb a ha => ?_, fun hb => ?_⟩
     · subst hb
       refine ⟨F.at_ ρ1 h1 H1, x, rx, kh, ρ1, s1.set i (some (.e a)), h1, R1.enter, S1.set (z := .e a) rfl, (wipeS_post (W := W) (PostS.shift e1 ?_)).enter R1⟩
       have p : PostS g F W ρ zh H (sameAll fun a => wipeS i (su a x (s1.set i (some (.e a))) h1)) D := p
       unfold sameAll at p
       split at p
       · rename_i hall
         have e := hall a
         dsimp only at e
         rw [e]
         exact p
       · exact p.elim
     · subst hb
       exact ih p
end
section
variable {K : KS} {s : ZS} {h : ZH} {d : DS}
def KS.tryM (l : List Cls) (K : KS) : KS := ⟨K.nx, K.rt, K.bk, K.ct, fun x s h => (chain l x s h).wp K⟩
variable {x : ZX} {l : List Cls}
end
end Zl
end
section
namespace Zl
open PySem PySem.Spec PyProof.Rows L2
def lowX (g : G) (a : Addr) (oe : Obj) (x : ZX) (M : Sem) : Sp := fun vs H Q E => ∃ F ρ zs zh cls dx, RX g F.U0 F.H0 x cls dx ∧ Zc cls dx oe ∧ (∃ vs, oe.data = .fields vs) ∧ RelH g F ρ zh H ∧ RZs g (UO F ρ zh) H ρ zs vs ∧ Post g F (fun c d _ H' => E c d H') ρ [] zh [] H (M zs zh) Q
structure FnX (P : Program) (w : World) (K : PySem.W.Frag) (mg : Str → Option Value) (base : Heap) (g : G) (k : Nat) (f : Addr) (fd : FuncData) (ps : List Str) (M : Addr → ZX → Sem) : Prop where
 len : ∀ a oe x vs H Q E, lowX g a oe x (M a x) vs H Q E → vs.length = ps.length
 run : ∀ (a : Addr) (oe : Obj) (x : ZX) (A : Around) (outer : List Env) (s : Shared) (H : Hp) (args : Args) (us : List Value) (vs : List V) (Q : VK) (E : XK), RoomC k A → Env0 P w K mg base A outer s H → s.heap.get? a = some oe → H a = none → a ∉ frs outer → BindsTo s fd args (ps.zip us) → Vals vs us → lowX g a oe x (M a x) vs H Q E →
   codeAny (model P w) A (.call (.ref f) args) (CR (L2.CX P w) outer P w H s Q E) s
section
variable {P : Program} {w : World} {K : PySem.W.Frag} {mg : Str → Option Value} {base : Heap} {k : Nat} {f : Addr} {name qual : Str} {params : Arguments} {body : List Stmt} {scope : Scope} {dV kV doc pm cdv ct oc : Value} {an od : Option Addr} {osl : Array (Option Value)} {N ps : List Str} {g : G} {M : Addr → ZX → Sem} {a : Addr} {oe : Obj}
end
section
variable {g : G} {F : Fr} {X : Cx} {W : WX} {k : Nat} {f : Addr} {fd : FuncData} {ps N : List Str} {M : Addr → ZX → Sem} {e o : Expr} {es : List Expr} {d : DA} {da : DE} {qual : Str} {p pos : Pos}
structure FnTX (P : Program) (w : World) (K : PySem.W.Frag) (mg : Str → Option Value) (base : Heap) (g : G) (k : Nat) (f : Addr) (fd : FuncData) (ps : List Str) (M : Addr → ZX → Sem) : Prop where
 ok : FnX P w K mg base g k f fd ps M
 kp : PySem.W.keepIn K (.ref f) = true
 bi : Binds K fd ps []
theorem FnTX.mono {P : Program} {w : World} {K : PySem.W.Frag} {mg : Str → Option Value} {base : Heap} {j : Nat} (T : FnTX P w K mg base g k f fd ps M) (h : k ≤ j) : FnTX P w K mg base g j f fd ps M :=
 ⟨⟨T.ok.len, fun a oe x A outer s H args us vs Q E hr => T.ok.run a oe x A outer s H args us vs Q E (hr.mono h)⟩, T.kp, T.bi⟩
def CalX (P : Program) (w : World) (g : G) (mg : Str → Option Value) (base : Heap) (k : Nat) (x : Str) (ps : List Str) (M : Addr → ZX → Sem) : Prop := ∃ f fd, mg x = some (.ref f) ∧ FnTX P w g.K mg base g k f fd ps M
theorem CalX.mono {P : Program} {w : World} {mg : Str → Option Value} {base : Heap} {nm : Str} {j : Nat} (T : CalX P w g mg base k nm ps M) (h : k ≤ j) : CalX P w g mg base j nm ps M := let ⟨f, fd, a, b⟩ := T; ⟨f, fd, a, b.mono h⟩
end
end Zl
end
section
namespace Zl
open PySem PySem.Spec PyProof.Rows L2
section
variable {g : G} {F : Fr} {X : Cx} {W : WX} {e : Expr} {da : DE} {pos : Pos}
end
section
variable {QZ : Z → ZH → Prop} {E : ZX → ZH → Prop} {s : ZS} {h : ZH} {da : DE}
end
end Zl
end
section
namespace Zl
open PySem PySem.Spec PyProof.Rows L2
open TL
section
variable {g : G} {F : Fr} {X : Cx} {W : WX} {e : Expr} {da : DE} {pos pos' : Pos} {x : Str}
end
section
variable {h : ZH}
end
end Zl
end
section
namespace Zl
open PySem PySem.Spec PyProof.Rows L2
open TL
section
variable {X : Cx}
variable {o e : Expr} {es : List Expr} {to : TE} {t : TA} {apos cpos : Pos}
end
section
variable {g : G} {F : Fr} {X : Cx} {W : WX} {e o : Expr} {es : List Expr} {da : DE} {d : DA} {pos apos cpos : Pos} {p : Pos}
end
section
variable {QZ : Z → ZH → Prop} {E : ZX → ZH → Prop} {s : ZS} {h : ZH} {da : DE}
end
end Zl
end
section
namespace Zl
open PySem PySem.Spec PyProof.Rows L2
open TL
section
variable {g : G} {F : Fr} {X : Cx} {W : WX} {e o : Expr} {es : List Expr} {da : DE} {d : DA} {pos apos cpos : Pos}
end
section
variable {h : ZH}
end
end Zl
end
section
namespace PySem
open PySem.Spec PyProof.Rows
section
variable {prog : Program} {w : World} {A : Around} {E : Value → Shared → Prop} {s : Shared}
end
end PySem
namespace Zl
open PySem PySem.Spec PyProof.Rows L2
def ItT (t it : Addr) (i : Nat) : HO := .ext fun h => h.IsTupleIter it t i
section
variable {X : Cx} {pins : List (Addr × Obj)} {σ : L2.St} {H : Hp} {s s' : Shared}
end
def spIt (K : PySem.W.Frag) (f : Str) : Sp := fun vs H Q _ => ∃ o C dx fs t ys, vs = [.ref o] ∧ H o = some (.ins C dx fs) ∧ L2.Cls K C ∧ L2.NoAttr K C f ∧ fs.lookup f = some (.ref t) ∧ SqT K H t ys ∧ ∀ it, H it = none → Q (.ref it) (upd H it (ItT t it 0))
structure ItN (K : PySem.W.Frag) (C fi : Addr) : Prop where
 it : PySem.W.findIn K (.ref C) "__iter__" = some (some (.ref fi))
 itF : PySem.W.isFn K (.ref fi) = true
 nolen : PySem.W.findIn K (.ref C) "__len__" = some none
 nohint : PySem.W.findIn K (.ref C) "__length_hint__" = some none
section
variable {X : Cx} {pins : List (Addr × Obj)} {σ : L2.St} {H H0 : Hp} {s : Shared} {q it t : Addr} {ys : List V}
end
def IterT (P : Program) (w : World) (K : PySem.W.Frag) (mg : Str → Option Value) (base : Heap) (g : G) (k : Nat) (c f : Nat) : Prop :=
 ∃ fi fd, ItN K (g.cad c) fi ∧ FnOk P w K mg base (L2.CX P w) k fi fd ["self"] (spIt K (fnm f)) ∧ Binds K fd ["self"] []
theorem IterT.mono {P : Program} {w : World} {K : PySem.W.Frag} {mg : Str → Option Value} {base : Heap} {g : G} {k j c f : Nat} (h : IterT P w K mg base g k c f) (l : k ≤ j) : IterT P w K mg base g j c f :=
 let ⟨fi, fd, a, b, d⟩ := h; ⟨fi, fd, a, b.mono l, d⟩
section
variable {g : G} {F : Fr} {X : Cx} {W : WX} {k c f : Nat} {e : Expr} {d : DA} {p pos : Pos}
end
end Zl
end
section
namespace Zl
open PySem PySem.Spec PyProof.Rows L2
section
variable {g : G} {F : Fr} {X : Cx} {W : WX} {a b : Expr} {da db : DE} {pos : Pos}
end
section
variable {h : ZH}
end
end Zl
end
section
namespace Zl
open PySem PySem.Spec PyProof.Rows L2
section
variable {X : Cx} {pins : List (Addr × Obj)} {σ : L2.St} {H : Hp} {s : Shared} {a : Addr} {oe : Obj}
theorem Inv.unpin (I : Inv X (pins ++ [(a, oe)]) σ H s) (n0 : X.s_0.heap.get? a = none) (hx : X.ex = []) (hpn : ∀ p ∈ X.pn ++ pins, p.1 ≠ a) :
   ∃ G : Heap, (∀ b o, G.get? b = some o → s.heap.get? b = some o) ∧ (∀ b o, b ≠ a → s.heap.get? b = some o → G.get? b = some o) ∧ G.get? a = none ∧ Inv X pins σ H { s with heap := G } := by
 obtain ⟨p1, na, p3, p4, p5⟩ := I.pin (a, oe) (by simp)
 obtain ⟨G, g1, g2⟩ := restrict s.heap fun b => decide (b ≠ a)
 have gk : ∀ b o, b ≠ a → s.heap.get? b = some o → G.get? b = some o := fun b o hb e => by
   rw [g1 b (decide_eq_true hb)]
   exact e
 have ga : G.get? a = none := g2 a (decide_eq_false fun z => z rfl)
 have gs : ∀ b o, G.get? b = some o → s.heap.get? b = some o := fun b o e => by
   by_cases hb : b = a
   · rw [hb, ga] at e
     cases e
   · rw [← g1 b (decide_eq_true hb)]
     exact e
 have ne0 : ∀ b o, X.s_0.heap.get? b = some o → b ≠ a := fun b o e z => by
   rw [z, n0] at e
   cases e
 have neT : ∀ b u, H b = some u → b ≠ a := fun b u e z => by
   rw [z, na] at e
   cases e
 have cellK : ∀ x c, X.env.cells.lookup x = some c → ∀ v, s.heap.IsCell c v → G.IsCell c v := fun x c e v ⟨o, ho, hd⟩ => ⟨o, gk c o (fun z => by
   rw [z] at ho
   have ho' : s.heap.get? a = some o := ho
   rw [show s.heap.get? a = some oe from p1] at ho'
   cases ho'
   exact p5 _ hd) ho, hd⟩
 refine ⟨G, gs, gk, ga, ⟨I.ok, I.os, I.bare, ⟨fun b o e n hb hq => ?_, fun b o e n hb hq => ?_, fun b o e n hq => ?_, fun b o e hq => ?_, fun b xs e => ?_, fun b o u e => ?_, fun b ps e => ?_⟩, ?_, fun x c e => ?_, ?_, fun x c e => ?_, fun p hp => ?_, fun b u e => ?_, I.len⟩⟩
 · exact gk b o (ne0 b o e) (I.base.keep b o e n hb hq)
 · obtain ⟨sl, q⟩ := I.base.slot b o e n hb hq
   exact ⟨sl, gk b _ (ne0 b o e) q⟩
 · exact I.base.free b o e n hq
 · obtain ⟨o', q⟩ := I.base.there b o e hq
   exact ⟨o', gk b o' (ne0 b o e) q⟩
 · exact I.base.tups b xs e
 · exact I.base.frzs b o u e
 · exact I.base.tbls b ps e
 · obtain ⟨m, ⟨o, es, ep, ho, r⟩, hl⟩ := I.loc
   refine ⟨m, ⟨o, es, ep, gk _ _ (Ne.symm p3) ho, r⟩, fun i x v e1 e2 e3 => ?_⟩
   obtain ⟨u, r', l⟩ := hl i x v e1 e2 e3
   refine ⟨u, r', ?_⟩
   rcases l with l | ⟨k, c, ec, z⟩
   · exact .inl l
   · exact .inr ⟨k, c, ec, cellK x c ec _ z⟩
 · obtain ⟨v, z⟩ := I.cell x c e
   exact ⟨v, cellK x c e v z⟩
 · exact I.free
 · exact I.freeC x c e
 · have hp' : p ∈ X.pn ++ (pins ++ [(a, oe)]) := by
     rw [← List.append_assoc]
     exact List.mem_append_left _ hp
   obtain ⟨e, n, ne, nf, d⟩ := I.pin p hp'
   exact ⟨gk _ _ (hpn p hp) e, n, ne, nf, d⟩
 · refine (I.hok b u e).stay (fun c v hc q => gk c v ?_ q) (fun c q => q) fun c xs q => q
   rcases hc with z | z
   · rw [z]
     exact neT b u e
   · exact neT c _ z
end
section
variable {g : G} {F : Fr} {ρ1 : List Addr} {zh1 : ZH} {H1 : Hp}
theorem RX.mono {U U' : Addr → Prop} {H H' : Hp} (st : Stb U H U' H') {x : ZX} {cls : Value} {dx : Option Addr} (h : RX g U H x cls dx) : RX g U' H' x cls dx := by
 obtain ⟨h1, h2, h3⟩ := h
 refine ⟨h1, h2, h3.imp id fun ⟨n, d, fvs, e, nu, hd, k, r⟩ => ?_⟩
 obtain ⟨h4, h5⟩ := st d _ hd nu
 exact ⟨n, d, fvs, e, h5, h4, k, RDs.mono st _ _ r⟩
end
section
variable {g : G} {F : Fr} {X : Cx} {W : WX} {e e2 : Expr} {es es2 : List Expr} {d d2 : DA} {pos pos2 pos' p p2 : Pos} {k c c2 : Nat} {x x2 : Str}
end
end Zl
end
section
namespace Zl
open PySem PySem.Spec PyProof.Rows L2
section
variable {prog : Program} {w : World} {A : Around} {E : Value → Shared → Prop} {s : Shared}
structure Nx (prog : Program) (w : World) (St : Heap → Addr → Addr → Nat → Prop) (Sq : Heap → Addr → Array Value → Prop) : Prop where
 obj : ∀ {h it l i}, St h it l i → ∃ o, h.get? it = some o ∧ ∀ v, o.data ≠ .cell v
 at_ : ∀ {h h' it l i}, St h it l i → (∀ o, h.get? it = some o → h'.get? it = some o) → St h' it l i
 sq : ∀ {h h' l xs}, Sq h l xs → (∀ o, h.get? l = some o → h'.get? l = some o) → Sq h' l xs
 item : ∀ {A : Around} {E : Value → Shared → Prop} {s : Shared} {it l i items x} {Q : Value → Shared → Prop}, St s.heap it l i → Sq s.heap l items → items[i]? = some x →
   (∀ h', St h' it l (i + 1) → Heap.SameBut it s.heap h' → Q x { s with heap := h' }) → wpAny (model prog w) A (Builtin.SmallTypes.nextOf (.ref it)) Q E s
 done : ∀ {A : Around} {E : Value → Shared → Prop} {s : Shared} {it l i} {items : Array Value} {Q : Value → Shared → Prop}, A.handled = none → St s.heap it l i → Sq s.heap l items → items[i]? = none →
   (∀ h' e, Heap.ExtBut it s.heap h' → (∃ o, h'.get? e = some o ∧ o.cls = .type "StopIteration") → E (.ref e) { s with heap := h' }) → wpAny (model prog w) A (Builtin.SmallTypes.nextOf (.ref it)) Q E s
variable {S1 S2 : Heap → Addr → Addr → Nat → Prop} {Q1 Q2 : Heap → Addr → Array Value → Prop}
end
section
variable {g : G} {F : Fr} {X : Cx} {W : WX} {e e2 : Expr} {d : DA} {pos : Pos} {kk : Nat}
end
section
variable {QZ : Z → ZH → Prop} {E : ZX → ZH → Prop} {s : ZS} {h : ZH} {d : DA}
end
end Zl
end
section
namespace Zl
open PySem PySem.Spec PyProof.Rows L2
section
variable {g : G} {F : Fr} {X : Cx} {W : WX} {k : Nat} {f : Addr} {fd : FuncData} {ps : List Str} {M : Sem} {o a b value : Expr} {da db dv : DE} {pos pos' apos : Pos}
theorem run_in {A1 : Around} (T : FnT X.prog X.w X.K X.mg X.base g k f fd ps M) (hr : Room k A1) (hf : A1.frames = X.A.frames) (tk : Takes X W) {pins : List (Addr × Obj)} {s : Shared} {σ : L2.St} {H : Hp} {Q : VK} {us : List Value} {vs : List V}
   (I : L2.Inv X pins σ H s) (r : Vals vs us) (h : lowF g M vs H Q (fun c d H' => W c d σ H')) :
   codeAny (model X.prog X.w) A1 (.call (.ref f) ⟨us, []⟩) (fun r s' => match r with | .ok (.ret u) => EP X pins σ Q u s' | .ok _ => False | .error e => X.xe e s') s := by
 have hl : us.length = ps.length := by rw [← r.length]; exact T.ok.len _ _ _ _ h
 have hb := T.bi s us I.kIn (by rw [List.append_nil]; exact hl)
 rw [List.append_nil] at hb
 have e0 : Env0 X.prog X.w X.K X.mg X.base A1 X.stack s H := by
   have e := I.env0
   exact ⟨by rw [hf]; exact e.frames, e.mod, e.bs, e.bsz, e.funs, e.frf, e.hok, e.bare⟩
 refine codeAny_mono (T.ok.run A1 X.stack s H ⟨us, []⟩ us vs Q _ hr e0 hb r h) fun r s' hq => ?_
 cases r with
 | error e => exact passesAt tk σ pins H s e s' I hq
 | ok fl =>
   cases fl with
   | ret u => exact I.after hq
   | next => exact hq
   | brk => exact hq
   | cont => exact hq
def OpE (P : Program) (w : World) (K : PySem.W.Frag) (mg : Str → Option Value) (base : Heap) (g : G) (k : Nat) (m : Str) (mt : Nat → Option Sem) : Prop :=
 ∀ c M, g.has c = true → mt c = some M → ∃ f fd ps, Meth K (g.cad c) m f ∧ FnT P w K mg base g k f fd ps M ∧ PySem.W.fnIn K f = true ∧ PySem.W.noSeq K (g.cad c) = true
theorem OpE.mono {P : Program} {w : World} {K : PySem.W.Frag} {mg : Str → Option Value} {base : Heap} {g : G} {k k' : Nat} {m : Str} {mt : Nat → Option Sem} (h : OpE P w K mg base g k m mt) (l : k ≤ k') : OpE P w K mg base g k' m mt := fun c M h1 h2 =>
 let ⟨f, fd, ps, a, b, d⟩ := h c M h1 h2; ⟨f, fd, ps, a, b.mono l, d⟩
def PropE (P : Program) (w : World) (K : PySem.W.Frag) (mg : Str → Option Value) (base : Heap) (g : G) (k : Nat) (m : Str) (mt : Nat → Option Sem) : Prop :=
 ∀ c M, g.has c = true → mt c = some M → ∃ p f fd ps, PropOf K (g.cad c) m p f ∧ FnT P w K mg base g k f fd ps M
theorem PropE.mono {P : Program} {w : World} {K : PySem.W.Frag} {mg : Str → Option Value} {base : Heap} {g : G} {k k' : Nat} {m : Str} {mt : Nat → Option Sem} (h : PropE P w K mg base g k m mt) (l : k ≤ k') : PropE P w K mg base g k' m mt := fun c M h1 h2 =>
 let ⟨p, f, fd, ps, a, b⟩ := h c M h1 h2; ⟨p, f, fd, ps, a, b.mono l⟩
structure PropSet (K : PySem.W.Frag) (C : Addr) (f : Str) (p s : Addr) : Prop where
 tk : PySem.W.takerIn K C f = some (some (.ref p))
 ty : PySem.W.typeIn K (.ref p) = some (.type "property")
 rec_ : ∃ a rest, PySem.W.recIn K p "property" = some (a :: .ref s :: rest)
def SetE (P : Program) (w : World) (K : PySem.W.Frag) (mg : Str → Option Value) (base : Heap) (g : G) (k : Nat) (m : Str) (mt : Nat → Option Sem) : Prop :=
 ∀ c M, g.has c = true → mt c = some M → ∃ p f fd ps, PropSet K (g.cad c) m p f ∧ FnT P w K mg base g k f fd ps M
theorem SetE.mono {P : Program} {w : World} {K : PySem.W.Frag} {mg : Str → Option Value} {base : Heap} {g : G} {k k' : Nat} {m : Str} {mt : Nat → Option Sem} (h : SetE P w K mg base g k m mt) (l : k ≤ k') : SetE P w K mg base g k' m mt := fun c M h1 h2 =>
 let ⟨p, f, fd, ps, a, b⟩ := h c M h1 h2; ⟨p, f, fd, ps, a, b.mono l⟩
end
section
variable {QZ : Z → ZH → Prop} {E : ZX → ZH → Prop} {s : ZS} {h : ZH} {da db dv : DE} {K : KS}
end
theorem xOp_ok {x m : Str} {K : PySem.W.Frag} (h : xOp x m K = true) : PySem.W.fnIn K (He.ma K (He.ga K x) m) = true ∧ PySem.W.noSeq K (He.ga K x) = true := He.ba h
end Zl
end
section
namespace Zl
open PySem PySem.Spec PyProof.Rows L2
section
variable {g : G} {F : Fr} {X : Cx} {W : WX} {k : Nat} {o i : Expr} {da db : DE} {pos : Pos}
end
section
variable {s : ZS} {h : ZH} {da db : DE} {K : KS} {v : Z}
end
end Zl
end
section
namespace Zl
open PySem PySem.Spec PyProof.Rows L2
open TL (tl tl_mk mk_tl)
section
variable {g : G} {F : Fr} {X : Cx} {W : WX} {o : Expr} {da : DE} {pos apos cpos : Pos}
end
section
variable {h : ZH}
end
end Zl
end
section
namespace PySem
open Sem (wp)
section
variable {prog : Program} {w : World} {A : Around} {R : GenEnd} {Y : Protocol} {n : Nat} {s₀ : Shared} {fs : List Frame} {s : Shared} {env : Env}
end
section
variable {M : Model} {A : Around} {R : GenEnd} {Y : Protocol} {n : Nat} {s₀ : Shared} {c : Code} {fs : List Frame} {s : Shared} {env : Env}
 {K : Flow → Sem Fin} {H : Value → Sem Fin} {gd : Bool → Bool} {lv : List Value → List Value}
end
end PySem
namespace L2
open PySem PySem.Spec PyProof.Rows GenW
section
variable {X : Cx} {st : Stmt} {rest : List Stmt}
end
end L2
end
section
namespace Zl
open PySem PySem.Spec PyProof.Rows L2 GenW
inductive OutY where
 | nx (ys : List D) (s : ZS) (h : ZH)
 | bad
abbrev DY := List D → ZS → ZH → OutY
section
variable {g : G} {F : Fr} {X : Cx} {W : WX} {st : Stmt} {sts : List Stmt} {e : Expr} {de : DE} {d : DS} {dy dy2 : DY} {pos yp : Pos}
def PostY (g : G) (F : Fr) (ρ : List Addr) (zh : ZH) (H : Hp) (out : OutY) (C : List V → L2.St → Hp → Prop) : Prop := match out with
 | .nx ys s h => ∀ ρ' σ' H' vs, Ext F ρ zh H ρ' h H' → RelH g F ρ' h H' → RelS g (UO F ρ' h) H' ρ' s σ' → RDs g (UO F ρ' h) H' ys vs → C vs σ' H'
 | .bad => False
theorem PostY.shift {ρ ρ1 : List Addr} {zh zh1 : ZH} {H H1 : Hp} {C : List V → L2.St → Hp → Prop} (e : Ext F ρ zh H ρ1 zh1 H1) {out : OutY} (p : PostY g F ρ zh H out C) : PostY g F ρ1 zh1 H1 out C := by
 cases out with
 | nx ys s h => exact fun ρ' σ' H' vs e' => p ρ' σ' H' vs (e.trans e')
 | bad => exact p
theorem GS.imp {t t' : TGn} (h : GS X st t) (k : ∀ D vs σ H, t' D vs σ H → t D vs σ H) : GS X st t' :=
 ⟨fun A S ip R n ys s₀ c fs K J gd lv s σ H D g hn kk hI ht => h.run A S ip R n ys s₀ c fs K J gd lv s σ H D g hn kk hI (k D ys σ H ht)⟩
theorem GSs.imp {t t' : TGn} (h : GSs X sts t) (k : ∀ D vs σ H, t' D vs σ H → t D vs σ H) : GSs X sts t' :=
 ⟨fun A S ip R n ys s₀ c fs K J gd lv s σ H D g hn kk hI ht => h.run A S ip R n ys s₀ c fs K J gd lv s σ H D g hn kk hI (k D ys σ H ht)⟩
open Classical in
noncomputable def yLoop (gd : ZH → Prop) (t : DG) (b : DY) : List Z → DY
 | [], ys, s, h => .nx ys s h
 | z :: zs, ys, s, h => match t z s h with
   | .nx s1 h1 => match b ys s1 h1 with
     | .nx ys2 s2 h2 => if gd h2 then yLoop gd t b zs ys2 s2 h2 else .bad
     | .bad => .bad
   | _ => .bad
end
def spG (g : G) (M : Sem) : SpG := fun vs H cont _ => ∃ F ρ zs zh ds h', RelH g F ρ zh H ∧ RZs g (UO F ρ zh) H ρ zs vs ∧ M zs zh = .ok (.d (.lst ds)) h' ∧
 ∀ ρ' H' vs', Ext F ρ zh H ρ' h' H' → RelH g F ρ' h' H' → RDs g (UO F ρ' h') H' ds vs' → cont vs' H'
structure GnT (P : Program) (w : World) (K : PySem.W.Frag) (mg : Str → Option Value) (base : Heap) (g : G) (k : Nat) (f : Addr) (fd : FuncData) (ps : List Str) (M : Sem) : Prop where
 ok : GFn P w K mg base k f fd ps (spG g M)
 kp : PySem.W.keepIn K (.ref f) = true
 bi : Binds K fd ps []
 lst : ∀ zs h, (∃ ds h', M zs h = .ok (.d (.lst ds)) h') ∨ M zs h = .bad
theorem GnT.mono {P : Program} {w : World} {K : PySem.W.Frag} {mg : Str → Option Value} {base : Heap} {g : G} {j k : Nat} {f : Addr} {fd : FuncData} {ps : List Str} {M : Sem} (T : GnT P w K mg base g k f fd ps M) (h : k ≤ j) : GnT P w K mg base g j f fd ps M := by
 refine ⟨⟨T.ok.len, fun A outer s H args us vs Q E hr e0 hb r q => ?_⟩, T.kp, T.bi, T.lst⟩
 refine codeAny_mono (T.ok.run A outer s H args us vs Q E (hr.mono h) e0 hb r q) fun r s' hq => ?_
 cases r with
 | error e => exact hq
 | ok fl =>
   cases fl with
   | ret u =>
     obtain ⟨a, gg, c, h1, h2, h3, h4, h5, h6, h7, h8, h9, h10⟩ := hq
     exact ⟨a, gg, c, h1, h2, h3, h4, h5, h6, h7, h8, h9, fun A S s2 hr2 => h10 A S s2 (hr2.mono h)⟩
   | next => exact hq
   | brk => exact hq
   | cont => exact hq
def GenE (P : Program) (w : World) (K : PySem.W.Frag) (mg : Str → Option Value) (base : Heap) (g : G) (k : Nat) (m : Str) (mt : Nat → Option Sem) : Prop :=
 ∀ c M, g.has c = true → mt c = some M → ∃ f fd ps, Meth g.K (g.cad c) m f ∧ GnT P w K mg base g k f fd ps M ∧ ∀ x ∈ clsFlds c, fnm x ≠ m
theorem GenE.mono {P : Program} {w : World} {K : PySem.W.Frag} {mg : Str → Option Value} {base : Heap} {g : G} {j k : Nat} {m : Str} {mt : Nat → Option Sem} (T : GenE P w K mg base g k m mt) (h : k ≤ j) : GenE P w K mg base g j m mt := fun c M h1 h2 =>
 let ⟨f, fd, ps, a, b, d⟩ := T c M h1 h2; ⟨f, fd, ps, a, b.mono h, d⟩
section
variable {g : G} {F : Fr} {X : Cx} {W : WX} {o : Expr} {da : DE} {apos pos pos2 p : Pos} {k : Nat} {m : Str} {mt : Nat → Option Sem} {pl : PySem.Sem Bool}
end
@[irreducible] def OutY.wp (o : OutY) (Q : List D → ZS → ZH → Prop) : Prop := match o with
 | .nx ys s h => Q ys s h
 | .bad => False
section
variable {Q : List D → ZS → ZH → Prop} {ys : List D} {s : ZS} {h : ZH} {a b : DY}
end
end Zl
end
section
namespace Zl
open PySem PySem.Spec PyProof.Rows L2 PySem.W
open Builtin Builtin.Str Builtin.Int Builtin.Float
end Zl
end
section
namespace Zl
open PySem PySem.Spec PyProof.Rows L2
open TL (tl tl_mk mk_tl tl_append)
section
variable {g : G} {F : Fr} {X : Cx} {W : WX} {e o : Expr} {da : DE} {d : DA} {es : List Expr} {pos p1 p2 p3 apos cpos p : Pos} {k : Nat}
end
section
variable {QZ : Z → ZH → Prop} {E : ZX → ZH → Prop} {s : ZS} {h : ZH} {da : DE}
end
end Zl
end
section
namespace Zl
open PySem PySem.Spec PyProof.Rows L2
section
variable {g : G} {F : Fr} {X : Cx} {W : WX} {k : Nat} {fe e : Expr} {es : List Expr} {da : DE} {d : DA} {pos : Pos}
def opCallI (mt : Nat → Option Sem) (x : Z) (zs : List Z) (h : ZH) : Out Z := match (clsZ x h).bind mt with
 | some M => callZ M (x :: zs) h
 | none => .bad
def dCallI (mt : Nat → Option Sem) (da : DE) (d : DA) : DE := fun s h => (da s h).bnd fun x h1 => if (clsZ x h1).isSome = true then (d s h1).bnd fun zs h2 => opCallI mt x zs h2 else .bad
theorem z_callI {mt : Nat → Option Sem} (gk : ClsOk g) (hK : X.K = g.K) (T : OpE X.prog X.w X.K X.mg X.base g k "__call__" mt) (hr : Room (k + 1) X.A) (tk : Takes X W) (hf : ZE g F X W fe da) (ha : ZA g F X W (e :: es) d)
   (ht : eval (.Call fe (e :: es) [] pos) X.env = (do callWith pos (← eval fe X.env) [] (backTo pos (starEach (e :: es) X.env)) (backToKw pos (keywordEach [] X.env))) := by rfl)
   (he : starEach (e :: es) X.env = (false, eval e X.env) :: starEach es X.env := by rfl) (hpl : (backTo pos (starEach es X.env)).any (·.1) = false := by rfl) : ZE g F X W (.Call fe (e :: es) [] pos) (dCallI mt da d) := by
 refine ⟨fun pins s σ H Q I ⟨ρ, zσ, zh, RH, RS, p⟩ => ?_⟩
 refine Call_ (thn (hf.run pins s σ H (fun v H1 => ∃ ρ1 z zh1, Ext F ρ zh H ρ1 zh1 H1 ∧ RelH g F ρ1 zh1 H1 ∧ RZ g (UO F ρ1 zh1) H1 ρ1 z v ∧ Post g F W ρ1 zσ zh1 σ H1 (if (clsZ z zh1).isSome = true then (d zσ zh1).bnd fun zs h2 => opCallI mt z zs h2 else .bad) Q) I
   ⟨ρ, zσ, zh, RH, RS, Post.bnd p fun ρ1 z zh1 v H1 e1 R1 rz p1 => ⟨ρ1, z, zh1, e1, R1, rz, p1⟩⟩) fun u s1 ⟨x, H1, I1, rx, ρ1, z, zh1, e1, R1, rz, p1⟩ => ?_) ht
 split at p1
 · rename_i hs
   obtain ⟨c0, kc0⟩ := Option.isSome_iff_exists.mp hs
   obtain ⟨a, _, _, ex, _, _, _⟩ := clsZ_ok R1 rz kc0
   subst ex
   obtain rfl : u = Value.ref a := rx
   refine StX.callO_with (thn (ha.run pos pins s1 σ H1 (fun vs H2 => ∃ ρ2 zs zh2, Ext F ρ1 zh1 H1 ρ2 zh2 H2 ∧ RelH g F ρ2 zh2 H2 ∧ RZs g (UO F ρ2 zh2) H2 ρ2 zs vs ∧ Post g F W ρ2 zσ zh2 σ H2 (opCallI mt z zs zh2) Q) I1
     ⟨ρ1, zσ, zh1, R1, RS.mono e1, PostA.bndE p1 fun ρ2 zs zh2 vs H2 e2 R2 rzs p2 => ⟨ρ2, zs, zh2, e2, R2, rzs, p2⟩⟩) fun us s2 ⟨vs, H2, I2, r, ρ2, zs, zh2, e2, R2, rzs, p2⟩ => ?_) he hpl
   have rz2 := RZ.mono e2.stb e2.pre rz
   unfold opCallI at p2
   cases kc : clsZ z zh2 with
   | none => simp only [kc] at p2; exact p2.elim
   | some c =>
     simp only [kc, Option.bind_some] at p2
     cases km : mt c with
     | none => simp only [km] at p2; exact p2.elim
     | some M =>
       simp only [km] at p2
       obtain ⟨a', dx, fvs, ex, q, hc, _⟩ := clsZ_ok R2 rz2 kc
       obtain ⟨f, fd, ps, hm, FT, hfn, _⟩ := T c M hc km
       cases ex
       obtain ⟨ox, od, J, hd⟩ := StX.insC_at I2 (.inr ⟨dx, fvs, q⟩)
       refine ⟨⟨_, ox, od, J, hd⟩, wpAny_call ?_⟩
       refine PySem.W.kco_code I2.kIn J hd hm.at_ hm.fn hfn ?_
       refine codeAny_mono (run_in (A1 := X.A) FT (hr.mono (by omega)) rfl tk (us := .ref a :: us) (vs := .ref a :: vs) I2 (.cons rfl r) (call_post (zs := z :: zs) R2 ⟨_, _, rfl, rz2, rzs⟩ p2)) fun r s' hq => ?_
       cases r with
       | error e => exact hq
       | ok fl =>
         cases fl with
         | ret u => exact hq
         | next => exact False.elim hq
         | brk => exact False.elim hq
         | cont => exact False.elim hq
 · exact p1.elim
end
section
variable {QZ : Z → ZH → Prop} {E : ZX → ZH → Prop} {s : ZS} {h : ZH} {da : DE} {d : DA}
theorem wp_callI {mt : Nat → Option Sem} : (dCallI mt da d s h).wp QZ E = (da s h).wp (fun x h1 => (clsZ x h1).isSome = true ∧ (d s h1).wp (fun zs h2 => optP ((clsZ x h2).bind mt) fun M => (callZ M (x :: zs) h2).wp QZ E) E) E := by
 unfold dCallI
 rw [wp_bnd]
 refine wp_fun fun x h1 => ?_
 by_cases hs : (clsZ x h1).isSome = true
 · rw [if_pos hs, wp_bnd]
   have e : ∀ {P : Prop}, ((clsZ x h1).isSome = true ∧ P) = P := propext ⟨fun z => z.2, fun z => ⟨hs, z⟩⟩
   rw [e]
   refine wp_fun fun zs h2 => ?_
   unfold opCallI
   cases (clsZ x h2).bind mt with
   | none => rw [optP_none]; dsimp only; rw [wp_bad]
   | some M => rw [optP_some]
 · rw [if_neg hs, wp_bad]
   exact propext ⟨fun z => z.elim, fun z => hs z.1⟩
end
end Zl
end
section
namespace Zl
open PySem PySem.Spec PyProof.Rows L2
def SupE (P : Program) (w : World) (K : PySem.W.Frag) (mg : Str → Option Value) (base : Heap) (g : G) (k : Nat) (D : Addr) (m : Str) (mt : Nat → Option Sem) : Prop :=
 ∀ c M, g.has c = true → mt c = some M → ∃ f fd ps, PySem.W.ks_superIn K (g.cad c) D m = some (some (.ref f)) ∧ PySem.W.typeIn K (.ref f) = some (.type "function") ∧ PySem.W.fnIn K f = true ∧ PySem.W.mroIn K (g.cad c) (.ref D) = some true ∧ PySem.W.nsIn K cStatics "thirdparty.any" = some none ∧ FnT P w K mg base g k f fd ps M
theorem SupE.mono {P : Program} {w : World} {K : PySem.W.Frag} {mg : Str → Option Value} {base : Heap} {g : G} {j k : Nat} {D : Addr} {m : Str} {mt : Nat → Option Sem} (T : SupE P w K mg base g j D m mt) (h : j ≤ k) : SupE P w K mg base g k D m mt := fun c M h1 h2 =>
 let ⟨f, fd, ps, a, b, d, e, x, y⟩ := T c M h1 h2; ⟨f, fd, ps, a, b, d, e, x, y.mono h⟩
section
variable {g : G} {F : Fr} {X : Cx} {W : WX} {k : Nat} {e : Expr} {es : List Expr} {d : DA}
end
end Zl
end
section
namespace Zl
open PySem PySem.Spec PyProof.Rows L2
section
variable {g : G} {F : Fr} {X : Cx} {W : WX} {c : Code} {st : Stmt} {sts : List Stmt} {d d' : DS}
theorem PSsA.imp {t t' : TS} (h : PSsA X c sts t) (k : ∀ D σ H, t' D σ H → t D σ H) : PSsA X c sts t' := ⟨fun pins s σ H D I q => h.run pins s σ H D I (k D σ H q)⟩
end
section
variable {K : KS} {s : ZS} {h : ZH} {d : DA}
end
end Zl
end
section
namespace Zl
open PySem PySem.Spec PyProof.Rows L2
end Zl
end
section
namespace Zl
open PySem PySem.Spec PyProof.Rows L2
open TL
section
variable {g : G} {F : Fr} {X : Cx} {W : WX} {sts : List Stmt}
end
section
variable {K : KS} {s : ZS} {h : ZH} {d : DS}
theorem unZ_d {fp : List Nat} {n : Nat} {x : D} : unZ fp n (.d x) = .d x := id rfl
end
end Zl
end
section
namespace Zl
open PySem PySem.Spec PyProof.Rows L2
def padN (M : Sem) : Sem := fun zs h => M (zs ++ [Z.d D.non]) h
structure FnTd (P : Program) (w : World) (K : PySem.W.Frag) (mg : Str → Option Value) (base : Heap) (g : G) (k : Nat) (f : Addr) (fd : FuncData) (ps : List Str) (M : Sem) : Prop where
 ok : FnOk P w K mg base (L2.CX P w) k f fd ps (lowF g M)
 kp : PySem.W.keepIn K (.ref f) = true
 bi : ∃ ds, Vals [V.non] ds ∧ Binds K fd ps ds
structure GnTd (P : Program) (w : World) (K : PySem.W.Frag) (mg : Str → Option Value) (base : Heap) (g : G) (k : Nat) (f : Addr) (fd : FuncData) (ps : List Str) (M : Sem) : Prop where
 ok : GFn P w K mg base k f fd ps (spG g M)
 kp : PySem.W.keepIn K (.ref f) = true
 bi : ∃ ds, Vals [V.non] ds ∧ Binds K fd ps ds
 lst : ∀ zs h, (∃ ds h', M zs h = .ok (.d (.lst ds)) h') ∨ M zs h = .bad
theorem FnTd.mono {P : Program} {w : World} {K : PySem.W.Frag} {mg : Str → Option Value} {base : Heap} {g : G} {j k : Nat} {f : Addr} {fd : FuncData} {ps : List Str} {M : Sem} (T : FnTd P w K mg base g k f fd ps M) (h : k ≤ j) : FnTd P w K mg base g j f fd ps M :=
 ⟨⟨T.ok.len, fun A outer s H args us vs Q E hr => T.ok.run A outer s H args us vs Q E (hr.mono h)⟩, T.kp, T.bi⟩
theorem GnTd.mono {P : Program} {w : World} {K : PySem.W.Frag} {mg : Str → Option Value} {base : Heap} {g : G} {j k : Nat} {f : Addr} {fd : FuncData} {ps : List Str} {M : Sem} (T : GnTd P w K mg base g k f fd ps M) (h : k ≤ j) : GnTd P w K mg base g j f fd ps M := by
 refine ⟨⟨T.ok.len, fun A outer s H args us vs Q E hr e0 hb r q => ?_⟩, T.kp, T.bi, T.lst⟩
 refine codeAny_mono (T.ok.run A outer s H args us vs Q E (hr.mono h) e0 hb r q) fun r s' hq => ?_
 cases r with
 | error e => exact hq
 | ok fl =>
   cases fl with
   | ret u =>
     obtain ⟨a, gg, c, h1, h2, h3, h4, h5, h6, h7, h8, h9, h10⟩ := hq
     exact ⟨a, gg, c, h1, h2, h3, h4, h5, h6, h7, h8, h9, fun A S s2 hr2 => h10 A S s2 (hr2.mono h)⟩
   | next => exact hq
   | brk => exact hq
   | cont => exact hq
def MethEd (P : Program) (w : World) (K : PySem.W.Frag) (mg : Str → Option Value) (base : Heap) (g : G) (k : Nat) (m : Str) (mt : Nat → Option Sem) : Prop :=
 ∀ c M, g.has c = true → mt c = some M → ∃ f fd ps M0, Meth g.K (g.cad c) m f ∧ FnTd P w K mg base g k f fd ps M0 ∧ M = padN M0 ∧ ∀ x ∈ clsFlds c, fnm x ≠ m
def GenEd (P : Program) (w : World) (K : PySem.W.Frag) (mg : Str → Option Value) (base : Heap) (g : G) (k : Nat) (m : Str) (mt : Nat → Option Sem) : Prop :=
 ∀ c M, g.has c = true → mt c = some M → ∃ f fd ps M0, Meth g.K (g.cad c) m f ∧ GnTd P w K mg base g k f fd ps M0 ∧ M = padN M0 ∧ ∀ x ∈ clsFlds c, fnm x ≠ m
theorem MethEd.mono {P : Program} {w : World} {K : PySem.W.Frag} {mg : Str → Option Value} {base : Heap} {g : G} {j k : Nat} {m : Str} {mt : Nat → Option Sem} (T : MethEd P w K mg base g k m mt) (h : k ≤ j) : MethEd P w K mg base g j m mt := fun c M h1 h2 =>
 let ⟨f, fd, ps, M0, a, b, d, e⟩ := T c M h1 h2; ⟨f, fd, ps, M0, a, b.mono h, d, e⟩
theorem GenEd.mono {P : Program} {w : World} {K : PySem.W.Frag} {mg : Str → Option Value} {base : Heap} {g : G} {j k : Nat} {m : Str} {mt : Nat → Option Sem} (T : GenEd P w K mg base g k m mt) (h : k ≤ j) : GenEd P w K mg base g j m mt := fun c M h1 h2 =>
 let ⟨f, fd, ps, M0, a, b, d, e⟩ := T c M h1 h2; ⟨f, fd, ps, M0, a, b.mono h, d, e⟩
section
variable {g : G} {F : Fr} {X : Cx} {W : WX}
end
section
variable {g : G} {F : Fr} {X : Cx} {W : WX} {a b c e o value : Expr} {es : List Expr} {da db dc : DE} {pos pos' apos : Pos}
end
section
variable {g : G} {F : Fr} {X : Cx} {W : WX} {o : Expr} {da : DE} {apos pos pos2 p : Pos} {k : Nat} {m : Str} {mt : Nat → Option Sem} {pl : PySem.Sem Bool}
end
end Zl
end
section
namespace Zl
open PySem PySem.Spec PyProof.Rows L2
open AutoSeq1 (wpAny_loadPart')
section
variable {prog : Program} {w : World} {A : Around} {E : Value → Shared → Prop} {s : Shared}
end
end Zl
end
section
namespace Zl
open PySem PySem.Spec PyProof.Rows L2
open TL
section
variable {g : G} {F : Fr} {X : Cx} {W : WX} {e : Expr} {da : DE} {pos : Pos}
end
section
variable {E : ZX → ZH → Prop} {s : ZS} {h : ZH} {da : DE}
end
end Zl
end
section
namespace Zl
open PySem PySem.Spec PyProof.Rows L2
open TL
def asIntL : List D → Option (List Int)
 | [] => some []
 | .int b :: xs => (asIntL xs).map (b :: ·)
 | _ => none
theorem asIntL_rds {g : G} {U : Addr → Prop} {H : Hp} : ∀ {xs : List D} {ns : List Int} {vs : List V}, asIntL xs = some ns → RDs g U H xs vs → vs = ns.map V.int
 | [], ns, vs, e, r => by
   cases e
   exact rds_nil.mp r
 | .int s :: xs, ns, vs, e, r => by
   unfold asIntL at e
   cases k : asIntL xs with
   | none => rw [k] at e; cases e
   | some t =>
     rw [k] at e
     cases e
     obtain ⟨v, vs', rfl, r1, r2⟩ := rds_cons.mp r
     rw [rd_int.mp r1, asIntL_rds k r2]
     rfl
 | .non :: xs, ns, vs, e, r => by cases e
 | .bl _ :: xs, ns, vs, e, r => by cases e
 | .str _ :: xs, ns, vs, e, r => by cases e
 | .tup _ :: xs, ns, vs, e, r => by cases e
 | .tupN _ :: xs, ns, vs, e, r => by cases e
 | .lst _ :: xs, ns, vs, e, r => by cases e
 | .scr _ :: xs, ns, vs, e, r => by cases e
 | .obj _ _ :: xs, ns, vs, e, r => by cases e
 | .dic _ _ :: xs, ns, vs, e, r => by cases e
 | .dit _ _ :: xs, ns, vs, e, r => by cases e
 | .cls _ :: xs, ns, vs, e, r => by cases e
theorem asIntL_map : ∀ {ns : List Int}, asIntL (ns.map .int) = some ns
 | [] => rfl
 | n :: ns => by
   show (asIntL (ns.map .int)).map (n :: ·) = _
   rw [asIntL_map]
   rfl
section
variable {g : G} {F : Fr} {X : Cx} {W : WX} {e : Expr} {es : List Expr} {d : DA} {p pos : Pos}
end
section
variable {QZ : Z → ZH → Prop} {E : ZX → ZH → Prop} {h : ZH}
end
end Zl
end
section
namespace Zl
open PySem PySem.Spec PyProof.Rows L2
open TL
section
variable {g : G} {F : Fr} {X : Cx} {W : WX} {o i e : Expr} {da db dc : DE} {d : DA} {pos tpos apos cpos : Pos}
end
section
variable {QZ : Z → ZH → Prop} {E : ZX → ZH → Prop} {K : KS} {s : ZS} {h : ZH} {da db dc : DE} {op : Op2}
end
end Zl
end
section
namespace Zl
open PySem PySem.Spec PyProof.Rows L2
open TL
section
variable {g : G} {F : Fr} {X : Cx} {W : WX} {c : Expr} {pos : Pos}
end
section
variable {K : KS} {s : ZS} {h : ZH} {t : DT} {d : DS}
def KS.wh (K : KS) (k : ZS → ZH → Prop) : KS := ⟨k, K.rt, K.nx, k, K.ex⟩
end
end Zl
end
section
namespace Zl
open PySem PySem.Spec PyProof.Rows L2
open TL
section
variable {g : G} {F : Fr} {X : Cx} {W : WX} {px py pz pos : Pos} {kk : Nat}
end
section
variable {K : KS} {s : ZS} {h : ZH}
end
end Zl
end
section
namespace Zl
open PySem PySem.Spec PyProof.Rows L2
open TL
section
variable {X : Cx} {es : List Expr} {pos : Pos} {t : TA}
variable {o e : Expr} {to : TE} {apos cpos : Pos}
end
section
variable {g : G} {F : Fr} {X : Cx} {W : WX} {a b e o : Expr} {es : List Expr} {da db : DE} {d : DA} {pos apos cpos : Pos} {p : Pos}
end
section
variable {QZ : Z → ZH → Prop} {E : ZX → ZH → Prop} {s : ZS} {h : ZH} {da : DE} {ds : DA}
end
end Zl
end
section
namespace Zl
open PySem PySem.Spec PyProof.Rows L2
open TL
mutual
def KeyV (H : Hp) : NestedKey → V → Prop
 | .none, v => v = .non
 | .num i, v => v = .int i
 | .text x, v => v = .str x
 | .tup ks, v => ∃ a vs, v = .ref a ∧ Rd H a (.tup vs) ∧ KeysV H ks vs
def KeysV (H : Hp) : List NestedKey → List V → Prop
 | [], vs => vs = []
 | k :: ks, vs => ∃ v vs', vs = v :: vs' ∧ KeyV H k v ∧ KeysV H ks vs'
end
section
variable {g : G} {U : Addr → Prop} {H : Hp}
mutual
theorem key_of_rd : ∀ (d : D) (v : V) (k : NestedKey), RD g U H d v → nkD d = some k → KeyV H k v
 | .non, v, k, r, e => by unfold nkD at e; cases e; unfold KeyV; exact rd_non.mp r
 | .int i, v, k, r, e => by unfold nkD at e; cases e; unfold KeyV; exact rd_int.mp r
 | .str s, v, k, r, e => by unfold nkD at e; cases e; unfold KeyV; exact (rd_str.mp r).1
 | .tup xs, v, k, r, e => by
   unfold nkD at e
   obtain ⟨ks, e1, rfl⟩ := Option.map_eq_some_iff.mp e
   obtain ⟨a, vs, rfl, _, q, rr⟩ := rd_tup.mp r
   unfold KeyV
   exact ⟨a, vs, rfl, q, keys_of_rd xs vs ks rr e1⟩
 | .tupN xs, v, k, r, e => by
   unfold nkD at e
   obtain ⟨ks, e1, rfl⟩ := Option.map_eq_some_iff.mp e
   obtain ⟨a, vs, od, rfl, _, q, _, rr⟩ := rd_tupN.mp r
   unfold KeyV
   exact ⟨a, vs, rfl, .inr ⟨od, q⟩, keys_of_rd xs vs ks rr e1⟩
 | .bl _, _, _, _, e => by unfold nkD at e; cases e
 | .lst _, _, _, _, e => by unfold nkD at e; cases e
 | .scr _, _, _, _, e => by unfold nkD at e; cases e
 | .obj _ _, _, _, _, e => by unfold nkD at e; cases e
 | .dic _ _, _, _, _, e => by unfold nkD at e; cases e
 | .dit _ _, _, _, _, e => by unfold nkD at e; cases e
 | .cls _, _, _, _, e => by unfold nkD at e; cases e
theorem keys_of_rd : ∀ (ds : List D) (vs : List V) (ks : List NestedKey), RDs g U H ds vs → nkDs ds = some ks → KeysV H ks vs
 | [], vs, ks, r, e => by unfold nkDs at e; cases e; unfold KeysV; exact rds_nil.mp r
 | d :: ds, vs, ks, r, e => by
   unfold nkDs at e
   obtain ⟨k, e1, e⟩ := Option.bind_eq_some_iff.mp e
   obtain ⟨ks', e2, rfl⟩ := Option.map_eq_some_iff.mp e
   obtain ⟨v, vs', rfl, r1, r2⟩ := rds_cons.mp r
   unfold KeysV
   exact ⟨v, vs', rfl, key_of_rd d v k r1 e1, keys_of_rd ds vs' ks' r2 e2⟩
end
end
section
variable {P : Program} {w : World} {H : Hp} {h : Heap}
mutual
theorem key_is (ok : HOk P w H h) : ∀ (k : NestedKey) (v : V) (u : Value), KeyV H k v → RelV v u → NestedIs h k u
 | .none, v, u, e, r => by unfold KeyV at e; subst e; cases r; exact .none
 | .num i, v, u, e, r => by unfold KeyV at e; subst e; obtain ⟨t, rfl⟩ := r; exact .int i t
 | .text x, v, u, e, r => by unfold KeyV at e; subst e; obtain ⟨t, rfl⟩ := r; exact .text x t
 | .tup ks, v, u, e, r => by
   unfold KeyV at e
   obtain ⟨a, vs, rfl, q, kk⟩ := e
   obtain rfl : u = Value.ref a := r
   obtain ⟨_, its, rv, o, ho, hc, n, hd⟩ := (show ObjOk P w H h a (.tup vs) from q.ok ok)
   exact .tup ho hc hd (keys_are ok ks vs its kk rv)
theorem keys_are (ok : HOk P w H h) : ∀ (ks : List NestedKey) (vs : List V) (us : List Value), KeysV H ks vs → Vals vs us → NestedAll h ks us
 | [], vs, us, e, r => by unfold KeysV at e; subst e; cases r; exact .nil
 | k :: ks, vs, us, e, r => by
   unfold KeysV at e
   obtain ⟨v, vs', rfl, e1, e2⟩ := e
   cases r with
   | cons r1 r2 => exact .cons (key_is ok k v _ e1 r1) (keys_are ok ks vs' _ e2 r2)
end
end
structure DicN (w : World) (H : Hp) (a : Addr) (xs : List NK) (vs : List V) : Prop where
 at_ : H a = some (ditO a (xs.map (entN w)).toArray)
 sm : (a == sysModules) = false
 nd : (xs.map (·.1)).Nodup
 sz : xs.length ≤ sizeLine
 dep : ∀ x ∈ xs, x.1.depth ≤ 8
 key : ∀ x ∈ xs, KeyV H x.1 (.ref x.2.1)
 val : Vals vs (xs.map fun x => x.2.2)
theorem ditO_at {w : World} {h : Heap} {a : Addr} {P : Program} {H : Hp} {xs : List NK} (ok : ObjOk P w H h a (ditO a (xs.map (entN w)).toArray)) : ∃ o ep, h.get? a = some o ∧ o.ExactDict ∧ o.data = .dict (xs.map (entN w)).toArray ep := ok.1
theorem ditO_ok {P : Program} {w : World} {H : Hp} {h : Heap} {a : Addr} {xs : List NK} (e : h.DictOfH (nestedKind P w) a xs) : ObjOk P w H h a (ditO a (xs.map (entN w)).toArray) := by
 obtain ⟨o, es, ep, ho, hx, hd, he, _, _⟩ := e
 have ee : es = (xs.map (entN w)).toArray := by
   apply Array.toList_inj.mp
   rw [he]; rfl
 subst ee
 exact ⟨⟨o, ep, ho, hx, hd⟩, ⟨o, ho⟩, fun h1 h2 ⟨o1, ep1, a1, a2, a3⟩ k => ⟨o1, ep1, k o1 a1, a2, a3⟩⟩
section
variable {X : Cx} {pins : List (Addr × Obj)} {σ : L2.St} {H : Hp} {s : Shared} {a : Addr} {xs : List NK} {vs : List V}
theorem DicN.heap (e : DicN X.w H a xs vs) (I : Inv X pins σ H s) : s.heap.DictOfH (nestedKind X.prog X.w) a xs := by
 obtain ⟨o, ep, ho, hx, hd⟩ := ditO_at (I.hok a _ e.at_)
 exact ⟨o, _, ep, ho, hx, hd, rfl, fun x hx => ⟨key_is I.hok x.1 _ _ (e.key x hx) rfl, e.dep x hx⟩, e.nd⟩
variable {o i value : Expr} {td ty tv : TE} {pos pos' : Pos}
theorem n_write {P : Program} {h' : Heap} {t' : Nat} {xs' : List NK} (I : Inv X pins σ H s) (e : DicN X.w H a xs vs) (hs : Heap.SameBut a s.heap h') (d : h'.DictOfH (nestedKind X.prog X.w) a xs') :
   Inv X pins σ (upd H a (ditO a (xs'.map (entN X.w)).toArray)) { s with heap := h', toks := t' } := by
 obtain ⟨o, _, _, ho, _⟩ := id d
 exact I.write (x := a) (e := a) (by rw [e.at_]; exact True.intro) (.inl rfl) (fun b q hb z => (hs.2 b hb).trans z) ⟨o, ho⟩ (ditO_ok d)
def putNK (w : World) (a : Addr) (xs : List NK) (k : NestedKey) (b : Addr) (u : Value) (H : Hp) : Hp := upd H a (ditO a ((storedH xs k b u).map (entN w)).toArray)
variable {f : Expr} {tf : TE} {apos cpos : Pos}
def tNSetd (w : World) (td ty tf : TE) : TE := fun σ H Q => td σ H fun x H1 => (∃ a xs vs, x = .ref a ∧ DicN w H1 a xs vs) ∧ ty σ H1 fun y H2 => tf σ H2 fun z H3 => ∃ a b xs vs k, x = .ref a ∧ y = .ref b ∧ DicN w H3 a xs vs ∧ KeyV H3 k (.ref b) ∧ k.depth ≤ 8 ∧ xs.length < sizeLine ∧
 (∀ p, atKey xs k = some p → ∃ v, RelV v p.2 ∧ Q v H3) ∧ (atKey xs k = none → ∀ u, RelV z u → Q z (putNK w a xs k b u H3))
theorem pe_nsetd (hu : X.A.units + 9 < cLine) (ho : PE X o td) (he : PE X i ty) (hf : PE X f tf) (m : M2 X o "setdefault" apos i f cpos) : PE X (.Call (.Attribute o "setdefault" apos) [i, f] [] cpos) (tNSetd X.w td ty tf) := by
 refine ⟨fun pins s σ H Q I h => ?_⟩
 refine wpAny_Call_method m.base m.few m.line PySem.F.plainAttrs_dict PySem.F.slot_dict_setdefault PySem.F.type_dict_setdefault (thn (ho.run pins s σ H _ I h) fun u s1 ⟨x, H1, I1, rx, ⟨a0, xs0, vs0, ex0, e0⟩, q1⟩ => ?_)
 subst ex0
 obtain rfl : u = Value.ref a0 := rx
 have d0 := e0.heap I1
 obtain ⟨ob, _, _, h1, h2, _⟩ := id d0
 refine ⟨d0.typeIs, fun b q => by cases q; exact ⟨ob, h1, h2.2.1⟩, ?_⟩
 rw [m.trees]
 refine Calls.callWith_builtin rfl (Calls.evalArgs_plain (Calls.spliced_cons (thn (he.run pins s1 σ H1 _ I1 q1) fun iv s2 ⟨y, H2, I2, ry, q2⟩ =>
   Calls.spliced_cons (thn (hf.run pins s2 σ H2 _ I2 q2) fun fv s3 ⟨z, H3, I3, rz, a, b, xs, vs, k, ex, ey, e, kk, kd, hz, q3, q4⟩ => Calls.spliced_nil ?_))))
 cases ex
 subst ey
 obtain rfl : iv = Value.ref b := ry
 refine call_setdefault_heap (knd := nestedKind X.prog X.w) (hsz := Nat.le_of_lt hz) (show X.A.units + 1 + 8 < cLine by omega) ⟨key_is I3.hok k _ _ kk rfl, kd⟩ e.sm (e.heap I3) (fun p hp => ?_) fun hn h' d hs => ?_
 · obtain ⟨v, rv, q⟩ := q3 p hp
   exact ⟨v, H3, I3.tok _, rv, q⟩
 · exact ⟨z, _, n_write (P := X.prog) I3 e hs d, rz, q4 hn fv rz⟩
end
end Zl
end
section
namespace Zl
open PySem PySem.Spec PyProof.Rows L2
open TL
theorem ditO_new {P : Program} {w : World} {H : Hp} (h : Heap) : ObjOk P w H (h.push { cls := .type "dict", data := .dict #[] }) h.objs.size (ditO h.objs.size (([] : List NK).map (entN w)).toArray) := by
 have e : (h.push { cls := .type "dict", data := .dict #[] }).get? h.objs.size = some { cls := .type "dict", data := .dict #[] } := Heap.get?_push_size _ rfl
 exact ⟨⟨_, _, e, ⟨rfl, rfl, rfl⟩, rfl⟩, ⟨_, e⟩, fun h1 h2 ⟨o1, ep1, a1, a2, a3⟩ k => ⟨o1, ep1, k o1 a1, a2, a3⟩⟩
section
variable {X : Cx}
end
end Zl
end
section
namespace Zl
open PySem PySem.Spec PyProof.Rows L2
open TL
def keyN (x : D) : Option NestedKey := match nkD x with
 | some (.tup ks) => if (NestedKey.tup ks).depth ≤ 8 then some (.tup ks) else none
 | _ => none
def nkE (a b : D) : Bool := decide (nkD a = nkD b)
def valN : List D → List D → D → Option D
 | k :: ks, v :: vs, x => if nkE k x = true then some v else valN ks vs x
 | _, _, _ => none
def repN : List D → List D → D → D → List D
 | k :: ks, v :: vs, x, y => (if nkE k x = true then y else v) :: repN ks vs x y
 | _, _, _, _ => []
theorem keyN_nk {x : D} {k : NestedKey} (h : keyN x = some k) : nkD x = some k ∧ k.depth ≤ 8 ∧ ∃ ks, k = .tup ks := by
 unfold keyN at h
 split at h
 · rename_i ks e
   split at h
   · rename_i hd
     cases h
     exact ⟨e, hd, ks, rfl⟩
   · cases h
 · cases h
section
variable {g : G} {U : Addr → Prop} {H : Hp}
theorem keyN_rd {x : D} {k : NestedKey} {v : V} (h : keyN x = some k) (r : RD g U H x v) : ∃ b, v = .ref b ∧ KeyV H k (.ref b) ∧ k.depth ≤ 8 := by
 obtain ⟨e, hd, ks, rfl⟩ := keyN_nk h
 have q := key_of_rd x v _ r e
 have q' := q
 unfold KeyV at q'
 obtain ⟨a, vs, rfl, _⟩ := q'
 exact ⟨a, rfl, q, hd⟩
theorem keysE : ∀ {ks : List D} {xs : List NK}, ks.map nkD = xs.map (fun x => some x.1) → RDs g U H ks (xs.map fun x => .ref x.2.1) → ∀ x ∈ xs, KeyV H x.1 (.ref x.2.1)
 | [], [], _, _, x, hx => by cases hx
 | [], _ :: _, e, _, _, _ => by simp at e
 | _ :: _, [], e, _, _, _ => by simp at e
 | k :: ks, y :: xs, e, r, x, hx => by
   simp only [List.map_cons, List.cons.injEq] at e
   obtain ⟨v, vs', e2, r1, r2⟩ := rds_cons.mp r
   simp only [List.map_cons, List.cons.injEq] at e2
   obtain ⟨rfl, rfl⟩ := e2
   rcases List.mem_cons.mp hx with rfl | hx
   · exact key_of_rd k _ _ r1 e.1
   · exact keysE e.2 r2 x hx
theorem DitE.dicN {a : Addr} {ks : List D} {xs : List NK} {vs : List V} (e : DitE g.w (H a) a ks xs vs) (r : RDs g U H ks (xs.map fun x => .ref x.2.1)) : DicN g.w H a xs vs :=
 ⟨e.at_, e.sm, e.nd, e.sz, e.dep, keysE e.key r, e.val⟩
theorem atKey_pos {xs : List NK} {k : NestedKey} {x : NK} (h : x.1 = k) : atKey (x :: xs) k = some x.2 := by simp [atKey, h]
theorem atKey_neg {xs : List NK} {k : NestedKey} {x : NK} (h : x.1 ≠ k) : atKey (x :: xs) k = atKey xs k := by simp [atKey, h]
theorem nkE_ok {k x : D} {a b : NestedKey} (h1 : nkD k = some a) (h2 : nkD x = some b) : nkE k x = decide (a = b) := by
 unfold nkE
 rw [h1, h2]
 exact decide_eq_decide.mpr ⟨fun e => Option.some.inj e, fun e => by rw [e]⟩
theorem valN_ok {x : D} {k : NestedKey} (hk : nkD x = some k) : ∀ {ks : List D} {ds : List D} {xs : List NK} {vs : List V}, ks.map nkD = xs.map (fun x => some x.1) → Vals vs (xs.map fun x => x.2.2) → RDs g U H ds vs →
   (valN ks ds x = none → atKey xs k = none) ∧ ∀ d, valN ks ds x = some d → ∃ p v, atKey xs k = some p ∧ RelV v p.2 ∧ RD g U H d v
 | [], ds, [], vs, _, _, _ => ⟨fun _ => rfl, fun d h => by cases ds <;> cases h⟩
 | [], _, _ :: _, _, e, _, _ => by simp at e
 | _ :: _, _, [], _, e, _, _ => by simp at e
 | kd :: ks, [], y :: xs, vs, e, rv, r => by
   rw [rds_nil.mp r] at rv
   cases rv
 | kd :: ks, d :: ds, y :: xs, vs, e, rv, r => by
   obtain ⟨v, vs', rfl, r1, r2⟩ := rds_cons.mp r
   simp only [List.map_cons, List.cons.injEq] at e
   cases rv with
   | cons v1 v2 =>
     obtain ⟨h1, h2⟩ := valN_ok hk e.2 v2 r2
     simp only [valN, nkE_ok e.1 hk]
     by_cases q : y.1 = k
     · rw [decide_eq_true q, if_pos rfl, atKey_pos q]
       exact ⟨fun z => (by cases z), fun d' z => (by cases z; exact ⟨_, _, rfl, v1, r1⟩)⟩
     · rw [decide_eq_false q, if_neg Bool.false_ne_true, atKey_neg q]
       exact ⟨h1, h2⟩
theorem repN_ok {x y : D} {k : NestedKey} {u : Value} {w : V} (hk : nkD x = some k) (ry : RD g U H y w) (rw_ : RelV w u) : ∀ {ks : List D} {ds : List D} {xs : List NK} {vs : List V}, ks.map nkD = xs.map (fun x => some x.1) → Vals vs (xs.map fun x => x.2.2) → RDs g U H ds vs →
   ∃ vs', Vals vs' ((xs.map (putAt k u)).map fun x => x.2.2) ∧ RDs g U H (repN ks ds x y) vs'
 | [], ds, [], vs, _, _, _ => ⟨[], .nil, by
   show RDs g U H (repN [] ds x y) []
   unfold repN
   exact rds_nil.mpr rfl⟩
 | [], _, _ :: _, _, e, _, _ => by simp at e
 | _ :: _, _, [], _, e, _, _ => by simp at e
 | kd :: ks, [], z :: xs, vs, e, rv, r => by
   rw [rds_nil.mp r] at rv
   cases rv
 | kd :: ks, d :: ds, z :: xs, vs, e, rv, r => by
   obtain ⟨v, vs', rfl, r1, r2⟩ := rds_cons.mp r
   simp only [List.map_cons, List.cons.injEq] at e
   cases rv with
   | cons v1 v2 =>
     obtain ⟨vs2, q1, q2⟩ := repN_ok hk ry rw_ e.2 v2 r2
     simp only [List.map_cons, repN, nkE_ok e.1 hk]
     by_cases q : z.1 = k
     · refine ⟨w :: vs2, .cons ?_ q1, rds_cons.mpr ⟨_, _, rfl, ?_, q2⟩⟩
       · unfold putAt; rw [if_pos q]; exact rw_
       · rw [decide_eq_true q, if_pos rfl]; exact ry
     · refine ⟨v :: vs2, .cons ?_ q1, rds_cons.mpr ⟨_, _, rfl, ?_, q2⟩⟩
       · unfold putAt; rw [if_neg q]; exact v1
       · rw [decide_eq_false q, if_neg Bool.false_ne_true]; exact r1
end
theorem putAt_fst {k : NestedKey} {u : Value} {xs : List NK} : (xs.map (putAt k u)).map (·.1) = xs.map (·.1) := by
 rw [List.map_map]
 refine List.map_congr_left fun x _ => ?_
 show (putAt k u x).1 = x.1
 unfold putAt
 split <;> rfl
theorem putAt_snd {k : NestedKey} {u : Value} {xs : List NK} : (xs.map (putAt k u)).map (fun x => V.ref x.2.1) = xs.map fun x => .ref x.2.1 := by
 rw [List.map_map]
 refine List.map_congr_left fun x _ => ?_
 show V.ref (putAt k u x).2.1 = _
 unfold putAt
 split <;> rfl
def ditZ (z : Z) (h : ZH) : Option (List D × List D) := match z with
 | .d (.dit ks ds) => some (ks, ds)
 | .r i => match h[i]? with
   | some (.dit ks ds) => some (ks, ds)
   | _ => none
 | _ => none
def putTk (i : Nat) (k v : D) (h : ZH) : Option ZH := match h[i]? with
 | some (.dit ks ds) => if ks.length < 1000000 then match keyN k with
     | some _ => match valN ks ds k with
       | some _ => some (h.set i (.dit ks (repN ks ds k v)))
       | none => some (h.set i (.dit (ks ++ [k]) (ds ++ [v])))
     | none => none
   else none
 | _ => none
section
variable {g : G} {F : Fr} {ρ : List Addr} {zh : ZH} {H : Hp}
theorem ditZ_ok (RH : RelH g F ρ zh H) {z : Z} {v : V} (rz : RZ g (UO F ρ zh) H ρ z v) {p : List D × List D} (h : ditZ z zh = some p) :
   ∃ a xs vs, v = .ref a ∧ DitE g.w (H a) a p.1 xs vs ∧ RDs g (UO F ρ zh) H p.1 (xs.map fun x => .ref x.2.1) ∧ RDs g (UO F ρ zh) H p.2 vs := by
 unfold ditZ at h
 split at h
 · cases h
   obtain ⟨a, xs, vs, e, _, q, r1, r2⟩ := rd_dit.mp rz
   exact ⟨a, xs, vs, e, q, r1, r2⟩
 · rename_i i
   obtain ⟨a, h1, rfl⟩ := rz
   cases hz : zh[i]? with
   | none => rw [hz] at h; cases h
   | some oo =>
     rw [hz] at h
     cases oo with
     | dit ks ds =>
       cases h
       obtain ⟨xs, vs, q, r1, r2⟩ := RH.own i a _ h1 hz
       exact ⟨a, xs, vs, rfl, q, r1, r2⟩
     | _ => cases h
 · cases h
theorem putTk_ok (RH : RelH g F ρ zh H) {i : Nat} {a b : Addr} {k v : D} {kk : NestedKey} {vv : V} {zh' : ZH} (h1 : ρ[i]? = some a) (hk : keyN k = some kk) (rk : RD g (UO F ρ zh) H k (.ref b)) (rv : RD g (UO F ρ zh) H v vv) (hp : putTk i k v zh = some zh') :
   ∃ ks ds xs vs, zh[i]? = some (.dit ks ds) ∧ DitE g.w (H a) a ks xs vs ∧ RDs g (UO F ρ zh) H ks (xs.map fun x => .ref x.2.1) ∧ RDs g (UO F ρ zh) H ds vs ∧ xs.length < sizeLine ∧ ∀ u, RelV vv u → RelH g F ρ zh' (putNK g.w a xs kk b u H) ∧ Ext F ρ zh H ρ zh' (putNK g.w a xs kk b u H) := by
 unfold putTk at hp
 split at hp
 · rename_i ks ds hz
   split at hp
   · rename_i hl
     obtain ⟨xs, vs, q, r1, r2⟩ := RH.own i a _ h1 hz
     rw [hk] at hp
     simp only at hp
     obtain ⟨nk, kd, kl, ek⟩ := keyN_nk hk
     have hlen : ks.length = xs.length := by have := congrArg List.length q.key; simpa using this
     obtain ⟨v1, v2⟩ := valN_ok nk q.key q.val r2
     have hlt : xs.length < sizeLine := milLt (by rw [← hlen]; exact hl)
     refine ⟨ks, ds, xs, vs, hz, q, r1, r2, hlt, fun u ru => ?_⟩
     cases hv : valN ks ds k with
     | some dv =>
       rw [hv] at hp
       cases hp
       obtain ⟨p, v', h3, h4, h5⟩ := v2 dv hv
       unfold putNK
       rw [storedH_old h3]
       refine RH.set (zo' := .dit ks (repN ks ds k v)) h1 hz rfl ?_
       have s : Stb (UO F ρ zh) H (UO F ρ (zh.set i (.dit ks (repN ks ds k v)))) (upd H a (ditO a ((xs.map (putAt kk u)).map (entN g.w)).toArray)) := fun c x e nub =>
         ⟨by rw [upd_ne (fun z : c = a => nub (by rw [z]; exact .inr ⟨i, _, h1, hz, rfl⟩))]; exact e, fun z => nub (uo_set z ⟨_, hz, rfl⟩)⟩
       obtain ⟨vs', w1, w2⟩ := repN_ok (k := kk) (u := u) (w := vv) nk (RD.mono s _ _ rv) ru q.key q.val (RDs.mono s _ _ r2)
       refine ⟨xs.map (putAt kk u), vs', ⟨upd_same, q.sm, by rw [putAt_fst]; exact q.nd, by rw [List.length_map]; exact q.sz, ?_, fun x hx => ?_, w1⟩, by rw [putAt_snd]; exact RDs.mono s _ _ r1, w2⟩
       · rw [q.key]
         have := congrArg (List.map some) (putAt_fst (k := kk) (u := u) (xs := xs))
         simpa [List.map_map] using this.symm
       · obtain ⟨y, hy, rfl⟩ := List.mem_map.mp hx
         have : (putAt kk u y).1 = y.1 := by unfold putAt; split <;> rfl
         rw [this]; exact q.dep y hy
     | none =>
       rw [hv] at hp
       cases hp
       have h3 := v1 hv
       unfold putNK
       rw [storedH_new h3]
       refine RH.set (zo' := .dit (ks ++ [k]) (ds ++ [v])) h1 hz rfl ?_
       have s : Stb (UO F ρ zh) H (UO F ρ (zh.set i (.dit (ks ++ [k]) (ds ++ [v])))) (upd H a (ditO a ((xs ++ [(kk, b, u)]).map (entN g.w)).toArray)) := fun c x e nub =>
         ⟨by rw [upd_ne (fun z : c = a => nub (by rw [z]; exact .inr ⟨i, _, h1, hz, rfl⟩))]; exact e, fun z => nub (uo_set z ⟨_, hz, rfl⟩)⟩
       refine ⟨xs ++ [(kk, b, u)], vs ++ [vv], ⟨upd_same, q.sm, ?_, ?_, ?_, fun x hx => ?_, ?_⟩, ?_, ?_⟩
       · rw [List.map_append, List.nodup_append]
         refine ⟨q.nd, by simp, fun x hx y hy e => ?_⟩
         have ey : y = kk := by simpa using hy
         subst ey
         subst e
         obtain ⟨z, hz1, hz2⟩ := List.mem_map.mp hx
         unfold atKey at h3
         rw [Option.map_eq_none_iff, List.find?_eq_none] at h3
         exact h3 z hz1 (decide_eq_true hz2)
       · rw [List.length_append]; exact hlt
       · rw [List.map_append, List.map_append, q.key]
         simp [nk]
       · rcases List.mem_append.mp hx with hx | hx
         · exact q.dep x hx
         · have := List.mem_singleton.mp hx
           subst this
           exact kd
       · rw [List.map_append]
         exact q.val.append (.cons ru .nil)
       · have := (RDs.mono s _ _ r1).append (rds_cons.mpr ⟨_, [], rfl, RD.mono s _ _ rk, rds_nil.mpr rfl⟩)
         rw [List.map_append (f := fun x : NK => V.ref x.2.1)]
         exact this
       · exact (RDs.mono s _ _ r2).append (rds_cons.mpr ⟨_, [], rfl, RD.mono s _ _ rv, rds_nil.mpr rfl⟩)
   · cases hp
 · cases hp
theorem putTk_key {i : Nat} {k v : D} {zh zh' : ZH} (h : putTk i k v zh = some zh') : ∃ kk, keyN k = some kk := by
 unfold putTk at h
 split at h
 · split at h
   · cases hk : keyN k with
     | none => rw [hk] at h; cases h
     | some kk => exact ⟨kk, rfl⟩
   · cases h
 · cases h
end
section
variable {g : G} {F : Fr} {X : Cx} {W : WX} {a b c e o f : Expr} {es : List Expr} {da db dc : DE} {d : DA} {pos apos cpos : Pos} {ρ : List Addr} {zσ : ZS} {zh : ZH} {σ : L2.St} {H : Hp}
def setd3N (x y z : Z) (h : ZH) : Out Z := match x, y, z with
 | .r i, .d k, .d v => match ditZ (.r i) h with
   | some p => match valN p.1 p.2 k with
     | some x => if (putTk i k v h).isSome then .ok (.d x) h else .bad
     | none => match putTk i k v h with
       | some h' => .ok (.d v) h'
       | none => .bad
   | none => .bad
 | _, _, _ => .bad
def dNSetd (da db dc : DE) : DE := fun s h => (da s h).bnd fun x h1 => match ditZ x h1 with
 | some _ => (db s h1).bnd fun y h2 => (dc s h2).bnd fun z h3 => setd3N x y z h3
 | none => .bad
theorem z_nsetd {k : Nat} (hw : X.w = g.w) (hr : Room (k + 9) X.A) (ho : ZE g F X W o da) (he : ZE g F X W e db) (hf : ZE g F X W f dc) (m : M2 X o "setdefault" apos e f cpos) :
   ZE g F X W (.Call (.Attribute o "setdefault" apos) [e, f] [] cpos) (dNSetd da db dc) := by
 refine PE.imp (pe_nsetd (by have := hr.un; omega) ho he hf m) fun σ H Q ⟨ρ, zσ, zh, RH, RS, p⟩ => ?_
 rw [hw]
 refine ⟨ρ, zσ, zh, RH, RS, Post.bnd p fun ρ1 x zh1 vx H1 e1 R1 rx p1 => ?_⟩
 cases hd : ditZ x zh1 with
 | none => rw [hd] at p1; exact p1.elim
 | some pp =>
   rw [hd] at p1
   simp only at p1
   obtain ⟨a, xs, vs, rfl, q, r1, r2⟩ := ditZ_ok R1 rx hd
   refine ⟨⟨a, xs, vs, rfl, q.dicN r1⟩, ρ1, zσ, zh1, R1, RS.mono e1, Post.bnd p1 fun ρ2 y zh2 vy H2 e2 R2 ry p2 => ?_⟩
   refine ⟨ρ2, zσ, zh2, R2, (RS.mono e1).mono e2, Post.bnd p2 fun ρ3 z zh3 vz H3 e3 R3 rz p3 => ?_⟩
   have rx3 := RZ.mono (e2.trans e3).stb (e2.trans e3).pre rx
   have ry3 := RZ.mono e3.stb e3.pre ry
   unfold setd3N at p3
   split at p3
   · rename_i i k v
     obtain ⟨a', h1, ea⟩ := rx3
     cases ea
     cases hp : putTk i k v zh3 with
     | none =>
       rw [hp] at p3
       cases hd3 : ditZ (.r i) zh3 with
       | none => rw [hd3] at p3; exact p3.elim
       | some p3p =>
         rw [hd3] at p3
         simp only at p3
         cases hv : valN p3p.1 p3p.2 k with
         | none => rw [hv] at p3; exact p3.elim
         | some dv => rw [hv] at p3; exact p3.elim
     | some zh4 =>
         rw [hp] at p3
         obtain ⟨kk, hk⟩ := putTk_key hp
         obtain ⟨b, rfl, kv, kd⟩ := keyN_rd hk ry3
         obtain ⟨ks, ds, xs4, vs4, hz, q3, s1, s2, t2, t3⟩ := putTk_ok R3 h1 hk ry3 rz hp
         have hd3 : ditZ (.r i) zh3 = some (ks, ds) := by unfold ditZ; simp only [hz]
         rw [hd3] at p3
         simp only at p3
         obtain ⟨v1, v2⟩ := valN_ok (keyN_nk hk).1 q3.key q3.val s2
         refine ⟨a, b, xs4, vs4, kk, rfl, rfl, q3.dicN s1, kv, kd, t2, fun pr hpr => ?_, fun hn u ru => ?_⟩
         · cases hv : valN ks ds k with
           | none => rw [v1 hv] at hpr; cases hpr
           | some dv =>
             rw [hv] at p3
             obtain ⟨pr', v', h3, h4, h5⟩ := v2 dv hv
             rw [hpr] at h3
             cases h3
             exact ⟨v', h4, Post.done R3 (z := .d dv) (by simpa using p3) h5⟩
         · cases hv : valN ks ds k with
           | some dv =>
             obtain ⟨pr', v', h3, _⟩ := v2 dv hv
             rw [hn] at h3
             cases h3
           | none =>
             rw [hv] at p3
             obtain ⟨R4, e4⟩ := t3 u ru
             exact p3 ρ3 _ _ e4 R4 (RD.mono e4.stb _ _ rz)
   · exact p3.elim
theorem ro_dit0 {U : Addr → Prop} {D : Addr} {zo : HO} (hs : (D == sysModules) = false) (e : zo = ditO D (([] : List NK).map (entN g.w)).toArray) : RO g U (upd H D zo) ρ D (.dit [] []) :=
 ⟨[], [], ⟨by rw [upd_same, e], hs, List.nodup_nil, Nat.zero_le _, rfl, fun x hx => (by cases hx), .nil⟩, rds_nil.mpr rfl, rds_nil.mpr rfl⟩
open Classical in
noncomputable def dcLoop (gd : ZH → Prop) (t : Z → ZS) (tt : DT) (dk dv : DE) (n : Nat) : List Z → ZH → Out Unit
 | [], h => .ok () h
 | z :: zs, h => match tt (t z) h with
   | .ok true h1 => match dk (t z) h1 with
     | .ok (.d k) h2 => match dv (t z) h2 with
       | .ok (.d v) h3 => match putTk n k v h3 with
         | some h4 => if gd h4 then dcLoop gd t tt dk dv n zs h4 else .bad
         | none => .bad
       | _ => .bad
     | _ => .bad
   | .ok false h1 => if gd h1 then dcLoop gd t tt dk dv n zs h1 else .bad
   | _ => .bad
open Classical in
noncomputable def dDc (di : DI) (i : Nat) (tt : DT) (dk dv : DE) : DE := fun s h => (di s h).bnd fun it h1 =>
 if it.guard (h1 ++ [.dit [] []]) then (dcLoop it.guard (fun z => (s.set i none).set i (some z)) tt dk dv h1.length it.items (h1 ++ [.dit [] []])).bnd fun _ h2 => .ok (.r h1.length) h2 else .bad
end
end Zl
end
section
namespace Zl
open PySem PySem.Spec PyProof.Rows L2
open TL
section
variable {QZ : Z → ZH → Prop} {QB : Bool → ZH → Prop} {QU : Unit → ZH → Prop} {E : ZX → ZH → Prop} {K : KS} {s : ZS} {h : ZH} {da db dc : DE} {tt : DT}
def ditO' : Option ZO → Option (List D × List D)
 | some (.dit ks ds) => some (ks, ds)
 | _ => none
theorem ditZ_r {i : Nat} : ditZ (.r i) h = ditO' h[i]? := by
 show (match h[i]? with
   | some (.dit ks ds) => some (ks, ds)
   | _ => none) = _
 rcases h[i]? with _ | o
 · rfl
 · cases o <;> rfl
theorem putTk_new {i : Nat} {k v : D} {ks ds : List D} {kk : NestedKey} (hz : h[i]? = some (.dit ks ds)) (hl : ks.length < 1000000) (hk : keyN k = some kk) (hv : valN ks ds k = none) : putTk i k v h = some (h.set i (.dit (ks ++ [k]) (ds ++ [v]))) := by
 unfold putTk
 simp only [hz, hk, hv, if_pos hl]
theorem putTk_old {i : Nat} {k v x : D} {ks ds : List D} {kk : NestedKey} (hz : h[i]? = some (.dit ks ds)) (hl : ks.length < 1000000) (hk : keyN k = some kk) (hv : valN ks ds k = some x) : putTk i k v h = some (h.set i (.dit ks (repN ks ds k v))) := by
 unfold putTk
 simp only [hz, hk, hv, if_pos hl]
theorem wp_nsetd : (dNSetd da db dc s h).wp QZ E = (da s h).wp (fun x h1 => optP (ditZ x h1) fun _ => (db s h1).wp (fun y h2 => (dc s h2).wp (fun z h3 => (setd3N x y z h3).wp QZ E) E) E) E := by
 with_unfolding_all
   unfold dNSetd
   rw [wp_bnd]
   refine wp_fun fun x h1 => ?_
   cases ditZ x h1 with
   | none => rw [optP_none]; dsimp only; rw [wp_bad]
   | some p =>
     rw [optP_some]
     dsimp only
     rw [wp_bnd]
     refine wp_fun fun y h2 => ?_
     rw [wp_bnd]
def setdNQ (i : Nat) (k v : D) (Q : Z → ZH → Prop) (h : ZH) : Option D → Option ZH → Prop
 | some x, some _ => Q (.d x) h
 | none, some h' => Q (.d v) h'
 | _, none => False
theorem setdNQ_s {i : Nat} {k v x : D} {h' : ZH} : setdNQ i k v QZ h (some x) (some h') = QZ (.d x) h := id rfl
theorem setdNQ_n {i : Nat} {k v : D} {h' : ZH} : setdNQ i k v QZ h none (some h') = QZ (.d v) h' := id rfl
theorem wp_setd3N {i : Nat} {k v : D} : (setd3N (.r i) (.d k) (.d v) h).wp QZ E = optP (ditO' h[i]?) fun p => setdNQ i k v QZ h (valN p.1 p.2 k) (putTk i k v h) := by
 unfold setd3N
 dsimp only
 rw [ditZ_r]
 cases ditO' h[i]? with
 | none => rw [optP_none]; dsimp only; rw [wp_bad]
 | some p =>
   rw [optP_some]
   dsimp only
   cases valN p.1 p.2 k with
   | none =>
     dsimp only
     cases putTk i k v h with
     | none => dsimp only; rw [wp_bad]; rfl
     | some h' => dsimp only; rw [wp_ok]; rfl
   | some x =>
     dsimp only
     cases putTk i k v h with
     | none => rw [if_neg (show ¬ ((none : Option ZH).isSome = true) from Bool.false_ne_true), wp_bad]; rfl
     | some h' => rw [if_pos (show (some h').isSome = true from rfl), wp_ok]; rfl
theorem valN_n {vs : List D} {x : D} : valN [] vs x = none := by
 unfold valN
 rfl
theorem valN_c {k v x : D} {ks vs : List D} : valN (k :: ks) (v :: vs) x = if nkE k x = true then some v else valN ks vs x := by
 conv => lhs; unfold valN
end
end Zl
end
section
namespace Zl
open PySem PySem.Spec PyProof.Rows L2
open TL
def CalD (P : Program) (w : World) (g : G) (mg : Str → Option Value) (base : Heap) (k : Nat) (x : Str) (ps : List Str) (M : Sem) : Prop := ∃ f fd, mg x = some (.ref f) ∧ FnTd P w g.K mg base g k f fd ps M
theorem CalD.mono {P : Program} {w : World} {g : G} {mg : Str → Option Value} {base : Heap} {k j : Nat} {x : Str} {ps : List Str} {M : Sem} (h : CalD P w g mg base k x ps M) (l : k ≤ j) : CalD P w g mg base j x ps M :=
 let ⟨f, fd, m, T⟩ := h; ⟨f, fd, m, T.mono l⟩
section
variable {g : G} {F : Fr} {X : Cx} {W : WX} {e o : Expr} {es : List Expr} {da db : DE} {a b : Expr} {d : DA} {pos apos cpos p : Pos}
theorem holds_ints {h : Heap} : ∀ {ns : List Int} {us : List Value}, Vals (ns.map V.int) us → PySem.W.HoldAll h us ns
 | [], us, r => by cases r; exact PySem.W.HoldAll.nil
 | n :: ns, us, r => by
   cases r with
   | cons r1 r2 =>
     obtain ⟨t, rfl⟩ := r1
     exact PySem.W.HoldAll.cons (PySem.W.holds_int n t) (holds_ints r2)
def TupI (H : Hp) (v : V) (ns : List Int) : Prop := ∃ b, v = .ref b ∧ Rd H b (.tup (ns.map V.int))
theorem holds_tupI {pins : List (Addr × Obj)} {s : Shared} {σ : L2.St} {H : Hp} (I : Inv X pins σ H s) {v : V} {ns : List Int} {u : Value} (t : TupI H v ns) (r : RelV v u) : PySem.W.Holds s.heap u (PySem.W.Tup.mk ns) := by
 obtain ⟨b, rfl, q⟩ := t
 cases r
 obtain ⟨its, r1, p1, _⟩ := I.tuple (xs := ns.map V.int) (.inl q)
 exact PySem.W.holds_tup p1 (by simpa using holds_ints r1)
def asTupI : D → Option (List Int)
 | .tup xs => asIntL xs
 | _ => none
theorem asTupI_rd {U : Addr → Prop} {H : Hp} {x : D} {v : V} {ns : List Int} (e : asTupI x = some ns) (r : RD g U H x v) : TupI H v ns := by
 unfold asTupI at e
 split at e
 · obtain ⟨a, vs, rfl, _, q, k⟩ := rd_tup.mp r
   rw [asIntL_rds e k] at q
   exact ⟨a, rfl, q⟩
 · cases e
end
section
variable {h : ZH}
theorem asTupI_t {ns : List Int} : asTupI (.tup (ns.map .int)) = some ns := asIntL_map
end
end Zl
end
section
namespace Zl
open PySem PySem.Spec PyProof.Rows L2
open TL
section
variable {g : G} {F : Fr} {X : Cx} {W : WX} {a b e o : Expr} {es : List Expr} {da db : DE} {d : DA} {pos p : Pos}
end
end Zl
end
section
namespace Zl
open PySem PySem.Spec PyProof.Rows L2
open TL
structure ItFn (P : Program) (w : World) (K : PySem.W.Frag) (mg : Str → Option Value) (base : Heap) (k : Nat) (f : Addr) (fd : FuncData) (fld : Str) : Prop where
 run : ∀ (A : Around) (outer : List Env) (s : Shared) (H : Hp) (args : Args) (o C dx l : Addr) (fs : List (Str × V)) (ys : List V), Room k A → Env0 P w K mg base A outer s H → BindsTo s fd args [("self", .ref o)] →
   H o = some (.ins C dx fs) → L2.Cls K C → L2.NoAttr K C fld → fs.lookup fld = some (.ref l) → SqL K H l ys →
   codeAny (model P w) A (.call (.ref f) args) (CR (L2.CX P w) outer P w H s (fun v H' => ∃ it, v = .ref it ∧ s.heap.objs.size ≤ it ∧ H it = none ∧ H' = upd H it (ItO l it 0)) (fun _ _ _ => False)) s
theorem ItFn.mono {P : Program} {w : World} {K : PySem.W.Frag} {mg : Str → Option Value} {base : Heap} {k j : Nat} {f : Addr} {fd : FuncData} {fld : Str} (h : ItFn P w K mg base k f fd fld) (l : k ≤ j) : ItFn P w K mg base j f fd fld :=
 ⟨fun A outer s H args o C dx li fs ys hr => h.run A outer s H args o C dx li fs ys (hr.mono l)⟩
def spLenL (K : PySem.W.Frag) (f : Str) : Sp := fun vs H Q _ => ∃ o C dx fs l ys, vs = [.ref o] ∧ H o = some (.ins C dx fs) ∧ L2.Cls K C ∧ L2.NoAttr K C f ∧ fs.lookup f = some (.ref l) ∧ SqL K H l ys ∧ Q (.int (ys.length : Nat)) H
structure ItC2 (K : PySem.W.Frag) (C fi : Addr) : Prop where
 it : PySem.W.findIn K (.ref C) "__iter__" = some (some (.ref fi))
 itF : PySem.W.isFn K (.ref fi) = true
section
variable {X : Cx} {pins : List (Addr × Obj)} {σ : L2.St} {H : Hp} {s : Shared}
section
variable {X : Cx} {pins : List (Addr × Obj)} {σ : L2.St} {H H0 : Hp} {s : Shared} {q it l : Addr} {ys : List V}
structure LenC (K : PySem.W.Frag) (C fl : Addr) : Prop where
 at_ : PySem.W.findIn K (.ref C) "__len__" = some (some (.ref fl))
 fn : PySem.W.isFn K (.ref fl) = true
end
section
variable {X : Cx}
end
def IterL (P : Program) (w : World) (K : PySem.W.Frag) (mg : Str → Option Value) (base : Heap) (g : G) (k : Nat) (c f : Nat) : Prop :=
 ∃ fi fd, ItC2 K (g.cad c) fi ∧ ItFn P w K mg base k fi fd (fnm f) ∧ Binds K fd ["self"] []
theorem IterL.mono {P : Program} {w : World} {K : PySem.W.Frag} {mg : Str → Option Value} {base : Heap} {g : G} {k j c f : Nat} (h : IterL P w K mg base g k c f) (l : k ≤ j) : IterL P w K mg base g j c f :=
 let ⟨fi, fd, a, b, d⟩ := h; ⟨fi, fd, a, b.mono l, d⟩
section
variable {g : G} {F : Fr} {W : WX} {e : Expr} {da : DE} {d : DA} {p pos : Pos}
def ListC (P : Program) (w : World) (K : PySem.W.Frag) (mg : Str → Option Value) (base : Heap) (g : G) (k : Nat) (c f : Nat) : Prop :=
 ∃ fi fdI fl fdL, ItC2 K (g.cad c) fi ∧ LenC K (g.cad c) fl ∧ ItFn P w K mg base k fi fdI (fnm f) ∧ Binds K fdI ["self"] [] ∧ FnOk P w K mg base (L2.CX P w) k fl fdL ["self"] (spLenL K (fnm f)) ∧ Binds K fdL ["self"] []
theorem ListC.mono {P : Program} {w : World} {K : PySem.W.Frag} {mg : Str → Option Value} {base : Heap} {g : G} {k j c f : Nat} (h : ListC P w K mg base g k c f) (l : k ≤ j) : ListC P w K mg base g j c f :=
 let ⟨fi, fdI, fl, fdL, a, b, d, e, x, y⟩ := h; ⟨fi, fdI, fl, fdL, a, b, d.mono l, e, x.mono l, y⟩
end
end
end Zl
end
section
namespace Zl
open PySem PySem.Spec PyProof.Rows L2
open TL
section
variable {g : G} {F : Fr} {X : Cx} {W : WX} {e : Expr} {d : DA} {p pos : Pos}
end
section
variable {g : G} {F : Fr} {X : Cx} {W : WX}
end
section
variable {QZ : Z → ZH → Prop} {E : ZX → ZH → Prop} {s : ZS} {h : ZH}
variable {da db : DE}
end
end Zl
end
section
namespace Zl
open PySem PySem.Spec PyProof.Rows L2 GenW
inductive OutW where
 | nx (ys : List D) (s : ZS) (h : ZH)
 | exc (x : ZX) (h : ZH)
 | bad
abbrev DW := List D → ZS → ZH → OutW
section
variable {g : G} {F : Fr} {X : Cx} {E : XK} {st : Stmt} {sts : List Stmt} {e : Expr} {de : DE} {d : DS} {dy dy2 : DW} {pos yp : Pos}
def PostW (g : G) (F : Fr) (E : XK) (ρ : List Addr) (zh : ZH) (H : Hp) (out : OutW) (C : List V → L2.St → Hp → Prop) : Prop := match out with
 | .nx ys s h => ∀ ρ' σ' H' vs, Ext F ρ zh H ρ' h H' → RelH g F ρ' h H' → RelS g (UO F ρ' h) H' ρ' s σ' → RDs g (UO F ρ' h) H' ys vs → C vs σ' H'
 | .exc x h => ∀ ρ' cls dx H', Ext F ρ zh H ρ' h H' → RelH g F ρ' h H' → RX g (UO F ρ' h) H' x cls dx → E cls dx H'
 | .bad => False
theorem PostW.shift {ρ ρ1 : List Addr} {zh zh1 : ZH} {H H1 : Hp} {C : List V → L2.St → Hp → Prop} (e : Ext F ρ zh H ρ1 zh1 H1) {out : OutW} (p : PostW g F E ρ zh H out C) : PostW g F E ρ1 zh1 H1 out C := by
 cases out with
 | nx ys s h => exact fun ρ' σ' H' vs e' => p ρ' σ' H' vs (e.trans e')
 | exc x h => exact fun ρ' cls dx H' e' => p ρ' cls dx H' (e.trans e')
 | bad => exact p
open Classical in
noncomputable def wLoop (gd : ZH → Prop) (t : DG) (b : DW) : List Z → DW
 | [], ys, s, h => .nx ys s h
 | z :: zs, ys, s, h => match t z s h with
   | .nx s1 h1 => match b ys s1 h1 with
     | .nx ys2 s2 h2 => if gd h2 then wLoop gd t b zs ys2 s2 h2 else .bad
     | .exc x h2 => .exc x h2
     | .bad => .bad
   | _ => .bad
end
def LstX (o : Out Z) : Prop := (∃ ds h', o = .ok (.d (.lst ds)) h') ∨ (∃ x h', o = .exc x h') ∨ o = .bad
def PostG (g : G) (F : Fr) (E : XK) (ρ : List Addr) (zh : ZH) (H : Hp) (out : Out Z) (cont : List V → Hp → Prop) : Prop := match out with
 | .ok z h' => ∃ ds, z = .d (.lst ds) ∧ ∀ ρ' H' vs', Ext F ρ zh H ρ' h' H' → RelH g F ρ' h' H' → RDs g (UO F ρ' h') H' ds vs' → cont vs' H'
 | .exc x h' => ∀ ρ' cls dx H', Ext F ρ zh H ρ' h' H' → RelH g F ρ' h' H' → RX g (UO F ρ' h') H' x cls dx → E cls dx H'
 | .bad => False
def spX (g : G) (M : Sem) : SpG := fun vs H cont E => ∃ F ρ zs zh, RelH g F ρ zh H ∧ RZs g (UO F ρ zh) H ρ zs vs ∧ PostG g F E ρ zh H (M zs zh) cont
structure GnTx (P : Program) (w : World) (K : PySem.W.Frag) (mg : Str → Option Value) (base : Heap) (g : G) (k : Nat) (f : Addr) (fd : FuncData) (ps : List Str) (M : Sem) : Prop where
 ok : GFn P w K mg base k f fd ps (spX g M)
 kp : PySem.W.keepIn K (.ref f) = true
 bi : Binds K fd ps []
 lst : ∀ zs h, LstX (M zs h)
theorem GnTx.mono {P : Program} {w : World} {K : PySem.W.Frag} {mg : Str → Option Value} {base : Heap} {g : G} {j k : Nat} {f : Addr} {fd : FuncData} {ps : List Str} {M : Sem} (T : GnTx P w K mg base g k f fd ps M) (h : k ≤ j) : GnTx P w K mg base g j f fd ps M := by
 refine ⟨⟨T.ok.len, fun A outer s H args us vs Q E hr e0 hb r q => ?_⟩, T.kp, T.bi, T.lst⟩
 refine codeAny_mono (T.ok.run A outer s H args us vs Q E (hr.mono h) e0 hb r q) fun r s' hq => ?_
 cases r with
 | error e => exact hq
 | ok fl =>
   cases fl with
   | ret u =>
     obtain ⟨a, gg, c, h1, h2, h3, h4, h5, h6, h7, h8, h9, h10⟩ := hq
     exact ⟨a, gg, c, h1, h2, h3, h4, h5, h6, h7, h8, h9, fun A S s2 hr2 => h10 A S s2 (hr2.mono h)⟩
   | next => exact hq
   | brk => exact hq
   | cont => exact hq
def GenEx (P : Program) (w : World) (K : PySem.W.Frag) (mg : Str → Option Value) (base : Heap) (g : G) (k : Nat) (m : Str) (mt : Nat → Option Sem) : Prop :=
 ∀ c M, g.has c = true → mt c = some M → ∃ f fd ps, Meth g.K (g.cad c) m f ∧ GnTx P w K mg base g k f fd ps M ∧ ∀ x ∈ clsFlds c, fnm x ≠ m
theorem GenEx.mono {P : Program} {w : World} {K : PySem.W.Frag} {mg : Str → Option Value} {base : Heap} {g : G} {j k : Nat} {m : Str} {mt : Nat → Option Sem} (T : GenEx P w K mg base g k m mt) (h : k ≤ j) : GenEx P w K mg base g j m mt := fun c M h1 h2 =>
 let ⟨f, fd, ps, a, b, d⟩ := T c M h1 h2; ⟨f, fd, ps, a, b.mono h, d⟩
section
variable {g : G} {F : Fr} {X : Cx} {W : WX} {o : Expr} {da : DE} {apos pos pos2 p : Pos} {k : Nat} {m : Str} {mt : Nat → Option Sem} {pl : PySem.Sem Bool}
end
end Zl
end
section
namespace Zl
open PySem PySem.Spec PyProof.Rows L2
noncomputable def D_law_is_number : DS := dEnd [0] (dRet (dAndV (dIsi .int (dVar 0)) (dNotV (dIsi .bl (dVar 0)))))
noncomputable def M_law_is_number : Sem := runF 1 1 D_law_is_number
noncomputable def D_law_mixed : DS := dEnd [0, 1, 2, 3] (dSeq (dAsg (dBin opMod (dCall opInt (dCons (dBin opAdd (dBin opAdd (dBin opMulS (dVar 0) (dC (.int 48271))) (dBin opMulS (dVar 1) (dC (.int 69621)))) (dC (.int 11))) (dNil))) (dC (.int 65537))) (gSet 2)) (dSeq (dAsg (dBin opMod (dCall opInt (dCons (dBin opAdd (dBin opAdd (dBin opMulS (dVar 2) (dVar 2)) (dBin opMulS (dVar 1) (dC (.int 7919)))) (dC (.int 3))) (dNil))) (dC (.int 64007))) (gSet 3)) (dRet (dBin opMod (dCall opInt (dCons (dBin opAdd (dBin opMulS (dVar 3) (dVar 3)) (dVar 2)) (dNil))) (dC (.int 99991))))))
noncomputable def M_law_mixed : Sem := runF 2 4 D_law_mixed
noncomputable def D_law_pool : DS := dEnd [0, 1, 2, 3, 4] (dSeq (dAsg (dLstO (dNil)) (gSet 1)) (dSeq (dFor (iRange1 (dCons (dCall opLen (dCons (dVar 0) (dNil))) (dNil))) (gSet 2) (dEnd [2, 3, 4] (dSeq (dAsg (dCall opAbs (dCons (dCall opInt (dCons (dBin opIx (dVar 0) (dVar 2)) (dNil))) (dNil))) (gSet 3)) (dIf (dCmpT opLt (dVar 3) (dBin opPow (dC (.int 10)) (dC (.int 18)))) (dFor (iRange1 (dCons (dC (.int 8)) (dNil))) (gSet 4) (dEnd [4] (dDrop (dMeth isLst opAppend (dVar 1) (dCons (dCallF M_law_mixed (dCons (dVar 3) (dCons (dBin opAdd (dBin opMulS (dC (.int 8)) (dVar 2)) (dVar 4)) (dNil)))) (dNil)))))) (dFor (iRange1 (dCons (dC (.int 60)) (dNil))) (gSet 4) (dEnd [4] (dIf (dCmpT opGt (dVar 3) (dC (.int 0))) (dSeq (dDrop (dMeth isLst opAppend (dVar 1) (dCons (dBin opMod (dCall opInt (dCons (dVar 3) (dNil))) (dC (.int 1000))) (dNil)))) (dAsg (dBin opDiv (dVar 3) (dC (.int 1000))) (gSet 3))) (dSkip)))))))) (dSeq (dDrop (dMeth isLst opReverse (dVar 1) dNil)) (dRet (dVar 1)))))
noncomputable def M_law_pool : Sem := runF 1 5 D_law_pool
noncomputable def D_law_draw : DS := dEnd [0, 1] (dSeq (dIf (dCmpT (opEq false) (dVar 0) (dLst (dNil))) (dRet (dC (.int 0))) (dSkip)) (dRet (dBin opMod (dCall opInt (dCons (dMeth isLst opPop (dVar 0) dNil) (dNil))) (dVar 1))))
noncomputable def M_law_draw : Sem := runF 2 2 D_law_draw
noncomputable def D_law_names : DS := dEnd [0, 1, 2, 3, 4, 5, 6, 7, 8, 9, 10] (dSeq (dAsg (dC (.str [97, 98, 99, 100, 101, 102, 103, 104, 105, 106, 107, 108, 109, 110, 111, 112, 113, 114, 115, 116, 117, 118, 119, 120, 121, 122])) (gSet 2)) (dSeq (dAsg (dCallF M_law_draw (dCons (dVar 0) (dCons (dC (.int 6)) (dNil)))) (gSet 3)) (dSeq (dIf (dCmpT (opEq false) (dVar 3) (dC (.int 4))) (dRet (dSl (dLst (dCons (dC (.str [114, 101, 97, 100])) (dCons (dC (.str [97, 115])) (dCons (dC (.str [119, 114, 105, 116, 101])) (dCons (dC (.str [98, 121])) (dCons (dC (.str [111, 102])) (dCons (dC (.str [112, 114, 111, 103, 114, 97, 109])) (dNil)))))))) none (some (dVar 1)))) (dSkip)) (dSeq (dAsg (dCallF M_law_draw (dCons (dVar 0) (dCons (dC (.int 26)) (dNil)))) (gSet 4)) (dSeq (dAsg (dBin opIx (dLst (dCons (dC (.int 1)) (dCons (dC (.int 25)) (dCons (dC (.int 7)) (dNil))))) (dCallF M_law_draw (dCons (dVar 0) (dCons (dC (.int 3)) (dNil))))) (gSet 5)) (dSeq (dAsg (dC (.str [])) (gSet 6)) (dSeq (dFor (iRange1 (dCons (dCallF M_law_draw (dCons (dVar 0) (dCons (dC (.int 4)) (dNil)))) (dNil))) (gSet 7) (dEnd [7] (dAsg (dBin opAdd (dVar 6) (dBin opIx (dVar 2) (dCallF M_law_draw (dCons (dVar 0) (dCons (dC (.int 26)) (dNil)))))) (gSet 6)))) (dSeq (dAsg (dC (.str [])) (gSet 8)) (dSeq (dFor (iRange1 (dCons (dCallF M_law_draw (dCons (dVar 0) (dCons (dC (.int 4)) (dNil)))) (dNil))) (gSet 7) (dEnd [7] (dAsg (dBin opAdd (dVar 8) (dBin opIx (dVar 2) (dCallF M_law_draw (dCons (dVar 0) (dCons (dC (.int 26)) (dNil)))))) (gSet 8)))) (dSeq (dAsg (dLstO (dNil)) (gSet 9)) (dSeq (dFor (iRange1 (dCons (dVar 1) (dNil))) (gSet 7) (dEnd [7, 10] (dSeq (dAsg (dBin opAdd (dBin opAdd (dVar 6) (dBin opIx (dVar 2) (dBin opMod (dCall opInt (dCons (dBin opAdd (dVar 4) (dBin opMulS (dVar 5) (dVar 7))) (dNil))) (dC (.int 26))))) (dVar 8)) (gSet 10)) (dSeq (dIf (dCmpT (opEq false) (dVar 3) (dC (.int 2))) (dAsg (dBin opAdd (dVar 10) (dBin opMulS (dBin opIx (dVar 2) (dVar 7)) (dBin opMod (dVar 7) (dC (.int 2))))) (gSet 10)) (dSkip)) (dDrop (dMeth isLst opAppend (dVar 9) (dCons (dVar 10) (dNil)))))))) (dFrz 9 (dRet (dVar 9))))))))))))))
noncomputable def M_law_names : Sem := runF 2 11 D_law_names
noncomputable def D_law_same : DS := dEnd [0, 1, 2] (dSeq (dIf (dOr (dNot (dTest (dIsi .tup (dVar 0)))) (dCmpT (opEq true) (dCall opLen (dCons (dVar 0) (dNil))) (dCall opLen (dCons (dVar 1) (dNil))))) (dRet (dC (.bl false))) (dSkip)) (dSeq (dFor (iRange1 (dCons (dCall opLen (dCons (dVar 1) (dNil))) (dNil))) (gSet 2) (dEnd [2] (dIf (dOr (dNot (dTest (dCallF M_law_is_number (dCons (dBin opIx (dVar 0) (dVar 2)) (dNil))))) (dCmpT (opEq true) (dBin opIx (dVar 0) (dVar 2)) (dBin opIx (dVar 1) (dVar 2)))) (dRet (dC (.bl false))) (dSkip)))) (dRet (dC (.bl true)))))
noncomputable def M_law_same : Sem := runF 2 3 D_law_same
end Zl
end
section
namespace Zl
open PySem PySem.Spec PyProof.Rows L2
def rLenN (w : World) : List V → Hp → VK → Prop := fun xs H Q => ∃ a ys vs, xs = [.ref a] ∧ DicN w H a ys vs ∧ ys.length < 1000000 ∧ Q (.int ((ys.length : Nat) : Int)) H
theorem call_lenN {X : Cx} : CallR X (.builtin "len") (rLenN X.w) := by
 intro pins s σ H xs us Q I r h
 obtain ⟨a, ys, vs, rfl, e, hl, q⟩ := h
 obtain ⟨u, rfl, rx⟩ := vals1 r
 obtain rfl : u = .ref a := rx
 refine call_len_dictH (knd := nestedKind X.prog X.w) e.sm (e.heap I) (by omega) ?_
 exact ⟨.int ((ys.length : Nat) : Int), H, I.tok _, ⟨_, rfl⟩, q⟩
def opLenD : OpN := fun zs h => match zs with
 | [z] => match ditZ z h with
   | some p => if p.1.length < 1000000 then .ok (.d (.int ((p.1.length : Nat) : Int))) h else .bad
   | none => .bad
 | _ => .bad
theorem low_lenD {g : G} : LowC g (rLenN g.w) opLenD := by
 intro F W ρ zσ zh σ H zs vs Q RH rz p
 unfold opLenD at p
 split at p
 · rename_i z
   obtain ⟨v, rfl, q⟩ := rzs_one rz
   cases k : ditZ z zh with
   | none => rw [k] at p; exact p.elim
   | some pp =>
     rw [k] at p
     dsimp only at p
     by_cases hl : pp.1.length < 1000000
     · rw [if_pos hl] at p
       obtain ⟨a, xs, ws, rfl, e, r1, r2⟩ := ditZ_ok RH q k
       have ll : pp.1.length = xs.length := by
         have := r1.length
         rw [List.length_map] at this
         exact this.symm
       refine ⟨a, xs, ws, rfl, e.dicN r1, by omega, Post.done RH p (rz_int.mpr (by rw [ll]))⟩
     · rw [if_neg hl] at p; exact p.elim
 · exact p.elim
def rListN (w : World) : List V → Hp → VK → Prop := fun xs H Q => ∃ a ys vs, xs = [.ref a] ∧ DicN w H a ys vs ∧ ys.length < 1000000 ∧ ∀ p, H p = none → Q (.ref p) (upd H p (.lst (ys.map fun x => V.ref x.2.1)))
theorem call_listN {X : Cx} (hc : X.calm = true) : CallR X (.type "list") (rListN X.w) := by
 intro pins s σ H xs us Q I r h
 obtain ⟨d, ks, vs, rfl, e, z, q⟩ := h
 obtain ⟨u, rfl, rx⟩ := r.one
 cases rx
 obtain ⟨o, es, ep, ho, hx, hdt, he, hn⟩ := e.heap I
 have l1 : es.size = ks.length := size_of_entries he
 refine PySem.W.kdl_call (kdl_raw e.sm hx hdt) (I.ok.hd hc) ho (by rw [sizeLine_eq]; omega) fun h' tk acc' c' kp e it => ?_
 have ea : acc'.toList = ks.map fun x => Value.ref x.2.1 := by
   have hl : acc'.toList.length = ks.length := by rw [Array.length_toList, it.1]; exact l1
   apply List.ext_getElem?
   intro j
   rw [List.getElem?_map]
   cases hj : acc'.toList[j]? with
   | none =>
     have h1 := List.getElem?_eq_none_iff.mp hj
     rw [List.getElem?_eq_none (by omega)]
     all_goals rfl
   | some v =>
     obtain ⟨en, hen, hv⟩ := it.2 j v (by rw [← Array.getElem?_toList]; exact hj)
     have qe := entry_at he j
     rw [hen] at qe
     cases hb : ks[j]? with
     | none =>
       rw [hb] at qe
       exact nomatch (show some en = none from qe)
     | some b =>
       rw [hb] at qe
       have e2 : en = entryOfKey (nestedKind X.prog X.w) b := Option.some.inj qe
       rw [hv, e2]
       all_goals rfl
 have eb : acc'.toList = (ks.map fun x => x.2.1).map Value.ref := by rw [ea, List.map_map]; all_goals rfl
 have rv : Vals (ks.map fun x => V.ref x.2.1) acc'.toList := by
   rw [eb, show (ks.map fun x => V.ref x.2.1) = (ks.map fun x => x.2.1).map V.ref by rw [List.map_map]; rfl]
   exact vals_refs _
 have hz : (ks.map fun x => V.ref x.2.1).length ≤ sizeLine := by rw [List.length_map, sizeLine_eq]; omega
 refine ⟨.ref s.heap.objs.size, _, I.laid (t' := tk) (o := .lst (ks.map fun x => V.ref x.2.1)) kp (Nat.le_refl _) ?_, rfl, q _ (I.hok.fresh (Nat.le_refl _))⟩
 exact ⟨hz, acc'.toList, c', rv, by rw [Array.toArray_toList]; exact e⟩
def opListD (own : Bool) : OpN := fun zs h => match zs with
 | [z] => match ditZ z h with
   | some p => if p.1.length < 1000000 then (if own then .ok (.r h.length) (h ++ [.dl p.1]) else .ok (.d (.lst p.1)) h) else .bad
   | none => .bad
 | _ => .bad
theorem low_listD {g : G} {own : Bool} : LowC g (rListN g.w) (opListD own) := by
 intro F W ρ zσ zh σ H zs vs Q RH rz p
 unfold opListD at p
 split at p
 · rename_i z
   obtain ⟨v, rfl, q⟩ := rzs_one rz
   cases k : ditZ z zh with
   | none => rw [k] at p; exact p.elim
   | some pp =>
     rw [k] at p
     dsimp only at p
     by_cases hl : pp.1.length < 1000000
     · rw [if_pos hl] at p
       obtain ⟨a, xs, ws, rfl, e, r1, r2⟩ := ditZ_ok RH q k
       have ll : pp.1.length = xs.length := by
         have := r1.length
         rw [List.length_map] at this
         exact this.symm
       refine ⟨a, xs, ws, rfl, e.dicN r1, by omega, fun p' hp' => ?_⟩
       cases own with
       | true =>
         rw [if_pos rfl] at p
         exact new_owned RH hp' p fun U s => ⟨_, upd_same, RDs.mono s _ _ r1⟩
       | false =>
         rw [if_neg Bool.false_ne_true] at p
         exact new_frozen RH hp' p fun U nu s => rd_lst.mpr ⟨p', _, rfl, nu, upd_same, RDs.mono s _ _ r1⟩
     · rw [if_neg hl] at p; exact p.elim
 · exact p.elim
section
variable {g : G} {F : Fr} {X : Cx} {W : WX} {e : Expr} {p pos : Pos} {d : DA}
theorem zc_lenD (hw : X.w = g.w) (hm : X.mg "len" = none) (ha : ZA g F X W [e] d) (hg : Gl X "len" := by rfl) (he : starEach [e] X.env = (false, eval e X.env) :: starEach [] X.env := by rfl) : ZE g F X W (.Call (.Name "len" p) [e] [] pos) (dCall opLenD d) :=
 z_callB call_lenN (by rw [hw]; exact low_lenD) hg hm (by decide +kernel) ha (by decide) (by decide) he (by rfl)
theorem zc_listD (own : Bool) (hw : X.w = g.w) (hc : X.calm = true) (hm : X.mg "list" = none) (ha : ZA g F X W [e] d) (hg : Gl X "list" := by rfl) (he : starEach [e] X.env = (false, eval e X.env) :: starEach [] X.env := by rfl) : ZE g F X W (.Call (.Name "list" p) [e] [] pos) (dCall (opListD own) d) :=
 z_callTy (call_listN hc) (by rw [hw]; exact low_listD) hg hm (by decide +kernel) ha (by decide) (by decide) he (by rfl)
def tDit0 (w : World) : TE := fun _ H Q => ∀ D, H D = none → (D == sysModules) = false → Q (.ref D) (upd H D (ditO D (([] : List NK).map (entN w)).toArray))
theorem pe_dit0 : PE X (.Dict [] [] pos) (tDit0 X.w) := ⟨fun pins s σ H Q I h =>
 wpAny_Dict_empty ⟨.ref s.heap.objs.size, _, I.laid (t' := s.toks) (fun b o e => Heap.get?_push_of_some _ e) (Nat.le_refl _) (ditO_new s.heap), rfl, h _ (I.hok.fresh (Nat.le_refl _)) (beq_eq_false_iff_ne.mpr (Nat.ne_of_gt I.big))⟩⟩
def dDit0 : DE := fun _ h => .ok (.r h.length) (h ++ [.dit [] []])
theorem z_dit0 (hw : X.w = g.w) : ZE g F X W (.Dict [] [] pos) dDit0 := by
 refine PE.imp pe_dit0 fun σ H Q ⟨ρ, zσ, zh, RH, RS, p⟩ => ?_
 rw [hw]
 intro q hq hs
 exact new_owned RH hq p fun U s => ro_dit0 hs rfl
end
section
variable {QZ : Z → ZH → Prop} {E : ZX → ZH → Prop} {s : ZS} {h : ZH}
theorem wp_lenD {z : Z} : (opLenD [z] h).wp QZ E = optP (ditZ z h) fun p => p.1.length < 1000000 ∧ QZ (.d (.int ((p.1.length : Nat) : Int))) h := by
 unfold opLenD
 dsimp only
 cases ditZ z h with
 | none => rw [optP_none]; dsimp only; rw [wp_bad]
 | some p =>
   rw [optP_some]
   dsimp only
   rw [wp_iteb, wp_ok]
theorem wp_listD {own : Bool} {z : Z} : (opListD own [z] h).wp QZ E = optP (ditZ z h) fun p => p.1.length < 1000000 ∧ (if own then QZ (.r h.length) (h ++ [.dl p.1]) else QZ (.d (.lst p.1)) h) := by
 unfold opListD
 dsimp only
 cases ditZ z h with
 | none => rw [optP_none]; dsimp only; rw [wp_bad]
 | some p =>
   rw [optP_some]
   dsimp only
   rw [wp_iteb]
   cases own <;> simp [wp_ok]
theorem wp_dit0 : (dDit0 s h).wp QZ E = QZ (.r h.length) (h ++ [.dit [] []]) := by
 unfold dDit0
 rw [wp_ok]
end
end Zl
end
section
namespace Zl
open PySem PySem.Spec PyProof.Rows L2
open TL
def PrSI (H : Hp) (v : V) (y : Str × List Int) : Prop := ∃ b w, v = .ref b ∧ Rd H b (.tup [V.str y.1, w]) ∧ TupI H w y.2
def PrSIs (H : Hp) : List V → List (Str × List Int) → Prop
 | [], ys => ys = []
 | v :: vs, ys => ∃ y r, ys = y :: r ∧ PrSI H v y ∧ PrSIs H vs r
def siT (y : Str × List Int) : Str × PySem.W.Tup Int := (y.1, PySem.W.Tup.mk y.2)
def rIndexS (K : PySem.W.Frag) : V → List V → Hp → VK → Prop := fun x vs H Q => ∃ a us ys v y, x = .ref a ∧ vs = [v] ∧ SqL K H a us ∧ PrSIs H us ys ∧ PrSI H v y ∧ y ∈ ys ∧ Q (.int (ys.idxOf y : Nat)) H
section
variable {X : Cx}
theorem holds_prSI {pins : List (Addr × Obj)} {s : Shared} {σ : L2.St} {H : Hp} (I : Inv X pins σ H s) {v : V} {y : Str × List Int} {u : Value} (t : PrSI H v y) (r : RelV v u) : PySem.W.Holds s.heap u (siT y) := by
 obtain ⟨b, w, rfl, q, tw⟩ := t
 cases r
 obtain ⟨its, r1, p1, _⟩ := I.tuple (xs := [V.str y.1, w]) (.inl q)
 cases r1 with
 | cons ra rb =>
   cases rb with
   | cons rc rd =>
     cases rd
     obtain ⟨tk, rfl⟩ := ra
     exact PySem.W.holds_pair p1 (PySem.W.holds_str _ _) (holds_tupI I tw rc)
theorem holds_prSIs {pins : List (Addr × Obj)} {s : Shared} {σ : L2.St} {H : Hp} (I : Inv X pins σ H s) : ∀ {vs : List V} {ys : List (Str × List Int)} {us : List Value}, PrSIs H vs ys → Vals vs us → PySem.W.HoldAll s.heap us (ys.map siT)
 | [], ys, us, t, r => by
   rw [show ys = [] from t]
   cases r
   exact PySem.W.HoldAll.nil
 | v :: vs, ys, us, ⟨y, nr, e, t1, t2⟩, r => by
   rw [e]
   cases r with
   | cons r1 r2 => exact PySem.W.HoldAll.cons (holds_prSI I t1 r1) (holds_prSIs I t2 r2)
theorem siT_inj {x y : Str × List Int} (h : siT x = siT y) : x = y := by
 obtain ⟨a, b⟩ := x
 obtain ⟨c, d⟩ := y
 unfold siT at h
 injection h with h1 h2
 injection h2 with h3
 subst h1 h3
 rfl
theorem idxOf_consD {α : Type} [DecidableEq α] {x y : α} {xs : List α} : (x :: xs).idxOf y = if x = y then 0 else xs.idxOf y + 1 := by
 rw [List.idxOf_cons]
 by_cases h : x = y
 · rw [h, beq_self_eq_true, if_pos rfl]
   rfl
 · rw [beq_eq_false_iff_ne.mpr h, if_neg h]
   rfl
theorem idx_si {y : Str × List Int} : ∀ {ys : List (Str × List Int)}, @List.idxOf _ (@instBEqOfDecidableEq (Str × PySem.W.Tup Int) inferInstance) (siT y) (ys.map siT) = ys.idxOf y
 | [] => rfl
 | x :: r => by
   rw [List.map_cons]
   refine (idxOf_consD (α := Str × PySem.W.Tup Int)).trans ?_
   rw [@idx_si y r, List.idxOf_cons]
   by_cases h : x = y
   · rw [h, beq_self_eq_true, if_pos rfl]
     rfl
   · rw [beq_eq_false_iff_ne.mpr h, if_neg (fun z => h (siT_inj z))]
     rfl
theorem mt_indexS (hu : X.A.units + 8 < cLine) : MtR X "list.index" (rIndexS X.K) := by
 intro pins s σ H x xs v us Q I rx rxs h
 obtain ⟨a, ws, ys, w, y, rfl, rfl, hs, ht, hw, hm, q⟩ := h
 cases rx
 obtain ⟨u, rfl, ru⟩ := rxs.one
 obtain ⟨its, rv, pl, hz⟩ := I.list hs
 have hl := holds_prSIs I ht rv
 have e := hl.length
 exact PySem.W.index_list_datum (l := a) (vs := its) (xs := ys.map siT) (x := siT y) pl.isList hl (holds_prSI I hw ru) (show X.A.units + 1 + _ < cLine by show X.A.units + 1 + 2 < cLine; omega) (by have := rv.length; omega) (List.mem_map.mpr ⟨y, hm, rfl⟩)
   ⟨.int (ys.idxOf y : Nat), H, I.tok _, by rw [idx_si]; exact ⟨_, rfl⟩, q⟩
end
def asPrS : D → Option (List Nat × List Int)
 | .tup [.str s, x] => (asTupI x).map fun ns => (s, ns)
 | _ => none
def asPrSs : List D → Option (List (List Nat × List Int))
 | [] => some []
 | x :: xs => (asPrS x).bind fun n => (asPrSs xs).map fun r => n :: r
def siV (p : List Nat × List Int) : Str × List Int := (mkS p.1, p.2)
theorem siV_inj {x y : List Nat × List Int} (h : siV x = siV y) : x = y := by
 obtain ⟨a, b⟩ := x
 obtain ⟨c, d⟩ := y
 obtain ⟨h1, h2⟩ := Prod.mk.inj (show (mkS a, b) = (mkS c, d) from h)
 rw [mkS_inj h1, h2]
theorem idx_sv {y : List Nat × List Int} : ∀ {ys : List (List Nat × List Int)}, (ys.map siV).idxOf (siV y) = ys.idxOf y
 | [] => rfl
 | x :: r => by
   rw [List.map_cons, List.idxOf_cons, List.idxOf_cons, idx_sv]
   have e : (siV x == siV y) = (x == y) := by
     by_cases h : x = y
     · rw [h, beq_self_eq_true, beq_self_eq_true]
     · rw [beq_eq_false_iff_ne.mpr h, beq_eq_false_iff_ne.mpr (fun z => h (siV_inj z))]
   rw [e]
section
variable {g : G}
theorem asPrS_rd {U : Addr → Prop} {H : Hp} {x : D} {v : V} {p : List Nat × List Int} (e : asPrS x = some p) (r : RD g U H x v) : PrSI H v (siV p) := by
 unfold asPrS at e
 split at e
 · rename_i s y
   obtain ⟨ns, e1, rfl⟩ := Option.map_eq_some_iff.mp e
   obtain ⟨a, vs, rfl, _, q, k⟩ := rd_tup.mp r
   obtain ⟨v1, r1, rfl, k1, k2⟩ := rds_cons.mp k
   obtain ⟨v2, r2, rfl, k3, k4⟩ := rds_cons.mp k2
   rw [rds_nil.mp k4] at q
   obtain ⟨es, _⟩ := rd_str.mp k1
   subst es
   exact ⟨a, v2, rfl, q, asTupI_rd e1 k3⟩
 · cases e
theorem asPrSs_rds {U : Addr → Prop} {H : Hp} : ∀ {xs : List D} {vs : List V} {ys : List (List Nat × List Int)}, asPrSs xs = some ys → RDs g U H xs vs → PrSIs H vs (ys.map siV)
 | [], vs, ys, e, r => by
   cases e
   rw [rds_nil.mp r]
   rfl
 | x :: xs, vs, ys, e, r => by
   obtain ⟨v, vs', rfl, r1, r2⟩ := rds_cons.mp r
   unfold asPrSs at e
   obtain ⟨n, e1, e⟩ := Option.bind_eq_some_iff.mp e
   obtain ⟨q, e2, rfl⟩ := Option.map_eq_some_iff.mp e
   exact ⟨siV n, _, rfl, asPrS_rd e1 r1, asPrSs_rds e2 r2⟩
def opLIxS : OpM := fun x zs h => match asList x h, zs with
 | some xs, [.d y] => match asPrSs xs, asPrS y with
   | some nss, some ns => if ns ∈ nss then .ok (.d (.int (nss.idxOf ns : Nat))) h else .bad
   | _, _ => .bad
 | _, _ => .bad
theorem low_lixS : LowM g (rIndexS g.K) opLIxS := by
 intro F W ρ zσ zh σ H zx zs x vs Q RH rx rs p
 unfold opLIxS at p
 split at p
 · rename_i xs y hx
   obtain ⟨a, us, rfl, hq, hr⟩ := asList_ok RH rx hx
   obtain ⟨u, rfl, ru⟩ := rzs_one rs
   split at p
   · rename_i nss ns h1 h2
     split at p
     · rename_i hm
       exact ⟨a, us, nss.map siV, u, siV ns, rfl, rfl, SqL.of hq, asPrSs_rds h1 hr, asPrS_rd h2 ru, List.mem_map.mpr ⟨ns, hm, rfl⟩, Post.done RH p (rz_int.mpr (by rw [idx_sv]))⟩
     · exact p.elim
   · exact p.elim
 · exact p.elim
end
section
variable {g : G} {F : Fr} {X : Cx} {W : WX} {e o : Expr} {es : List Expr} {da : DE} {cpos apos : Pos} {d : DA}
theorem z_lixS {k : Nat} (hr : Room (k + 9) X.A) (hK : X.K = g.K) (ho : ZE g F X W o da) (ha : ZA g F X W (e :: es) d)
   (hb : attributeBase o "index" X.env (eval o X.env) = eval o X.env := by rfl)
   (hfew : ((backTo cpos (starEach (e :: es) X.env)).all (fun x => !x.1) && (backToKw cpos (keywordEach [] X.env)).all (fun x => x.1.isSome)
     && decide ((e :: es).length + ([] : List Keyword).length + (if ([] : List Keyword).isEmpty then 0 else 1) < 30)) = true := by rfl)
   (hline : (apos.endLine == cpos.line) = true := by rfl) (hs : starEach (e :: es) X.env = (false, eval e X.env) :: starEach es X.env := by rfl) (hplain : (backTo cpos (starEach es X.env)).any (·.1) = false := by rfl) :
   ZE g F X W (.Call (.Attribute o "index" apos) (e :: es) [] cpos) (dMeth isLst opLIxS da d) :=
 z_meth PySem.F.plainAttrs_list PySem.F.slot_list_index PySem.F.type_list_index hK (mt_indexS (by have := hr.un; omega)) (by rw [hK]; exact low_lixS) ty_list ho ha hb hfew hline hs hplain
end
section
variable {h : ZH}
def prSD (p : List Nat × List Int) : D := .tup [.str p.1, .tup (p.2.map .int)]
theorem asPrS_p {p : List Nat × List Int} : asPrS (prSD p) = some p := by
 show (asTupI (.tup (p.2.map .int))).map (fun ns => (p.1, ns)) = some p
 rw [asTupI_t]
 rfl
theorem asPrSs_m : ∀ {ps : List (List Nat × List Int)}, asPrSs (ps.map prSD) = some ps
 | [] => rfl
 | p :: r => by
   rw [List.map_cons]
   unfold asPrSs
   rw [asPrS_p, asPrSs_m]
   rfl
theorem lIxS_r {i : Nat} {ps : List (List Nat × List Int)} {p : List Nat × List Int} (e : h[i]? = some (.dl (ps.map prSD))) : opLIxS (.r i) [.d (prSD p)] h = if p ∈ ps then .ok (.d (.int (ps.idxOf p : Nat))) h else .bad := by
 have a : asList (.r i) h = some (ps.map prSD) := by
   show (match h[i]? with
     | some (.dl xs) => some xs
     | _ => none) = _
   rw [e]
 unfold opLIxS
 rw [a]
 dsimp only
 rw [asPrSs_m, asPrS_p]
end
end Zl
end
section
namespace Zl
open PySem PySem.Spec PyProof.Rows L2
noncomputable def D_Formulas_init : DS := dEnd [0, 1] (dSeq (dSetFld f_starts (dVar 1) (dVar 0)) (dSetFld f_numbers (dDit0) (dVar 0)))
noncomputable def M_Formulas_init : Sem := runF 2 2 D_Formulas_init
noncomputable def D_law_due : DS := dEnd [0, 1, 2, 3, 4, 5] (dSeq (dFor (iAny (dVar 3)) (gSet 4) (dEnd [4] (dIf (dOr (dCmpT opLt (dVar 4) (dC (.int 0))) (dCmpT opGe (dVar 4) (dBin opAdd (dVar 0) (dCall opLen (dCons (dVar 1) (dNil)))))) (dRet (dTup (dCons (dC (.str [117, 110, 107, 110, 111, 119, 110])) (dCons (dVar 4) (dNil))))) (dSkip)))) (dSeq (dAsg (dTup (dCons (dVar 2) (dCons (dCall opTuple (dCons (dVar 3) (dNil))) (dNil)))) (gSet 5)) (dSeq (dIf (dCmpT (opIn false) (dVar 5) (dVar 1)) (dRet (dTup (dCons (dC (.str [110, 117, 109, 98, 101, 114])) (dCons (dBin opAdd (dVar 0) (dMeth isLst opLIxS (dVar 1) (dCons (dVar 5) (dNil)))) (dNil))))) (dSkip)) (dRet (dTup (dCons (dC (.str [110, 117, 109, 98, 101, 114])) (dCons (dBin opAdd (dVar 0) (dCall opLen (dCons (dVar 1) (dNil)))) (dNil))))))))
noncomputable def M_law_due : Sem := runF 4 6 D_law_due
noncomputable def D_Formulas_apply : DS := dEnd [0, 1, 2, 3, 4] (dSeq (dAsg (dBin opAdd (dFld f_starts (dVar 0)) (dCall opLenD (dCons (dFld f_numbers (dVar 0)) (dNil)))) (gSet 3)) (dSeq (dFor (iAny (dVar 2)) (gSet 4) (dEnd [4] (dIf (dNot (dBoolT (dChain opLe opLt (dC (.int 0)) (dVar 4) (dVar 3)))) (dRaiseX cUnknownFormula (dCons (dVar 4) (dNil))) (dSkip)))) (dRet (dNSetd (dFld f_numbers (dVar 0)) (dTup (dCons (dVar 1) (dCons (dCall opTuple (dCons (dVar 2) (dNil))) (dNil)))) (dVar 3)))))
noncomputable def M_Formulas_apply : Sem := runF 3 5 D_Formulas_apply
noncomputable def mtSelfFormulas_apply : Nat → Option Sem := fun c => if c = cFormulas then some M_Formulas_apply else none
noncomputable def D_Formulas_call : DS := dEnd [0, 1, 2] (dRet (dMethD mtSelfFormulas_apply (dVar 0) (dCons (dVar 1) (dCons (dVar 2) (dNil)))))
noncomputable def M_Formulas_call : Sem := runF 3 3 D_Formulas_call
noncomputable def mtO_callFormulas : Nat → Option Sem := fun c => if c = cFormulas then some M_Formulas_call else none
noncomputable def D_law_called : DS := dEnd [0, 1, 2, 3] (dTryAs (dRet (dTup (dCons (dC (.str [110, 117, 109, 98, 101, 114])) (dCons (dCallI mtO_callFormulas (dVar 0) (dCons (dVar 1) (dCons (dVar 2) (dNil)))) (dNil))))) (hit_c cUnknownFormula) 3 (fun a x => dSeq (dIf (dOr (dNot (dTest (dIsX a (isx x.c cWeaveError) (dVar 3)))) (dNot (dTest (dIsX a (some true) (dVar 3))))) (dRet (dTup (dCons (dC (.str [111, 100, 100])) (dCons (dC (.int 0)) (dNil))))) (dSkip)) (dRet (dTup (dCons (dC (.str [117, 110, 107, 110, 111, 119, 110])) (dCons (dFldX a x f_number (dVar 3)) (dNil)))))))
noncomputable def M_law_called : Sem := runF 3 4 D_law_called
noncomputable def D_Formulas_rows : DS := dEnd [0] (dRet (dCall (opListD true) (dCons (dFld f_numbers (dVar 0)) (dNil))))
noncomputable def M_Formulas_rows : Sem := runF 1 1 D_Formulas_rows
noncomputable def D_law_same_rows : DS := dEnd [0, 1, 2] (dSeq (dIf (dOr (dNot (dTest (dIsi .lst (dVar 0)))) (dCmpT (opEq true) (dCall opLen (dCons (dVar 0) (dNil))) (dCall opLen (dCons (dVar 1) (dNil))))) (dRet (dC (.bl false))) (dSkip)) (dSeq (dFor (iRange1 (dCons (dCall opLen (dCons (dVar 1) (dNil))) (dNil))) (gSet 2) (dEnd [2] (dSeq (dIf (dOr (dNot (dTest (dIsi .tup (dBin opIx (dVar 0) (dVar 2))))) (dCmpT (opEq true) (dCall opLen (dCons (dBin opIx (dVar 0) (dVar 2)) (dNil))) (dC (.int 2)))) (dRet (dC (.bl false))) (dSkip)) (dSeq (dIf (dOr (dNot (dTest (dIsi .str (dBin opIx (dBin opIx (dVar 0) (dVar 2)) (dC (.int 0)))))) (dCmpT (opEq true) (dBin opIx (dBin opIx (dVar 0) (dVar 2)) (dC (.int 0))) (dBin opIx (dBin opIx (dVar 1) (dVar 2)) (dC (.int 0))))) (dRet (dC (.bl false))) (dSkip)) (dIf (dNot (dTest (dCallF M_law_same (dCons (dBin opIx (dBin opIx (dVar 0) (dVar 2)) (dC (.int 1))) (dCons (dBin opIx (dBin opIx (dVar 1) (dVar 2)) (dC (.int 1))) (dNil)))))) (dRet (dC (.bl false))) (dSkip)))))) (dRet (dC (.bl true)))))
noncomputable def M_law_same_rows : Sem := runF 2 3 D_law_same_rows
noncomputable def mtFormulas_rows : Nat → Option Sem := fun c => if c = cFormulas then some M_Formulas_rows else none
noncomputable def D_law : DS := dEnd [0, 1, 2, 3, 4, 5, 6, 7, 8, 9, 10, 11, 12, 13, 14, 15, 16] (dSeq (dAsg (dCallF M_law_pool (dCons (dVar 0) (dNil))) (gSet 1)) (dSeq (dAsg (dCallF M_law_names (dCons (dVar 1) (dCons (dBin opIx (dLst (dCons (dC (.int 2)) (dCons (dC (.int 3)) (dCons (dC (.int 4)) (dNil))))) (dCallF M_law_draw (dCons (dVar 1) (dCons (dC (.int 3)) (dNil))))) (dNil)))) (gSet 2)) (dSeq (dAsg (dLst (dCons (dBin opIx (dLst (dCons (dC (.int 2)) (dCons (dC (.int 3)) (dCons (dC (.int 1)) (dNil))))) (dCallF M_law_draw (dCons (dVar 1) (dCons (dC (.int 3)) (dNil))))) (dCons (dBin opIx (dLst (dCons (dC (.int 1)) (dCons (dC (.int 2)) (dCons (dC (.int 3)) (dNil))))) (dCallF M_law_draw (dCons (dVar 1) (dCons (dC (.int 3)) (dNil))))) (dNil)))) (gSet 3)) (dSeq (dAsg (dLstZ (dCons (dMake true cFormulas M_Formulas_init (dCons (dBin opIx (dVar 3) (dC (.int 0))) (dNil))) (dCons (dMake true cFormulas M_Formulas_init (dCons (dBin opIx (dVar 3) (dC (.int 1))) (dNil))) (dNil)))) (gSet 4)) (dSeq (dAsg (dLstZ (dCons (dLstO (dNil)) (dCons (dLstO (dNil)) (dNil)))) (gSet 5)) (dSeq (dFor (iRange1 (dCons (dC (.int 64)) (dNil))) (gSet 6) (dEnd [6, 7, 8, 9, 10, 11, 12, 13, 14, 15, 16] (dSeq (dAsg (dCall opInt (dCons (dBin (opEq false) (dBin opMod (dVar 6) (dC (.int 8))) (dC (.int 7))) (dNil))) (gSet 7)) (dSeq (dAsg (dBin opIx (dVar 2) (dCallF M_law_draw (dCons (dVar 1) (dCons (dCall opLen (dCons (dVar 2) (dNil))) (dNil))))) (gSet 8)) (dSeq (dAsg (dBin opAdd (dBin opIx (dVar 3) (dVar 7)) (dCall opLen (dCons (dBin opIx (dVar 5) (dVar 7)) (dNil)))) (gSet 9)) (dSeq (dAsg (dLstO (dNil)) (gSet 10)) (dSeq (dFor (iRange1 (dCons (dBin opIx (dLst (dCons (dC (.int 1)) (dCons (dC (.int 2)) (dCons (dC (.int 0)) (dCons (dC (.int 3)) (dNil)))))) (dCallF M_law_draw (dCons (dVar 1) (dCons (dC (.int 4)) (dNil))))) (dNil))) (gSet 11) (dEnd [11, 12] (dSeq (dAsg (dBin opMod (dCall opInt (dCons (dBin opAdd (dCallF M_law_draw (dCons (dVar 1) (dCons (dC (.int 1000)) (dNil)))) (dBin opDiv (dVar 6) (dC (.int 3)))) (dNil))) (dVar 9)) (gSet 12)) (dSeq (dIf (dCmpT (opEq false) (dCallF M_law_draw (dCons (dVar 1) (dCons (dC (.int 10)) (dNil)))) (dC (.int 9))) (dAsg (dBin opIx (dLst (dCons (dVar 9) (dCons (dC (.int (-1))) (dCons (dBin opAdd (dVar 9) (dC (.int 7))) (dCons (dBin opSub (dC (.int 0)) (dVar 9)) (dNil)))))) (dCallF M_law_draw (dCons (dVar 1) (dCons (dC (.int 4)) (dNil))))) (gSet 12)) (dSkip)) (dDrop (dMeth isLst opAppend (dVar 10) (dCons (dVar 12) (dNil)))))))) (dSeq (dAsg (dCallF M_law_due (dCons (dBin opIx (dVar 3) (dVar 7)) (dCons (dBin opIx (dVar 5) (dVar 7)) (dCons (dVar 8) (dCons (dVar 10) (dNil)))))) (gSet 13)) (dSeq (dAsg (dCall (opList true) (dCons (dVar 10) (dNil))) (gSet 14)) (dSeq (dAsg (dCallF M_law_called (dCons (dBin opIx (dVar 4) (dVar 7)) (dCons (dVar 8) (dCons (dVar 14) (dNil))))) (gSet 15)) (dSeq (dIf (dOr (dCmpT (opEq true) (dVar 15) (dVar 13)) (dOr (dNot (dTest (dCallF M_law_is_number (dCons (dBin opIx (dVar 15) (dC (.int 1))) (dNil))))) (dCmpT (opEq true) (dVar 14) (dVar 10)))) (dRet (dC (.bl false))) (dSkip)) (dSeq (dDrop (dMeth isLst opAppend (dVar 14) (dCons (dC (.int 0)) (dNil)))) (dSeq (dIf (dCmpT (opEq false) (dBin opIx (dVar 13) (dC (.int 0))) (dC (.str [110, 117, 109, 98, 101, 114]))) (dSeq (dIf (dCmpT (opEq false) (dBin opIx (dVar 13) (dC (.int 1))) (dVar 9)) (dDrop (dMeth isLst opAppend (dBin opIx (dVar 5) (dVar 7)) (dCons (dTup (dCons (dVar 8) (dCons (dCall opTuple (dCons (dVar 10) (dNil))) (dNil)))) (dNil)))) (dSkip)) (dIf (dCmpT (opEq true) (dCallF M_law_called (dCons (dBin opIx (dVar 4) (dVar 7)) (dCons (dVar 8) (dCons (dCall opTuple (dCons (dVar 10) (dNil))) (dNil))))) (dVar 13)) (dRet (dC (.bl false))) (dSkip))) (dSkip)) (dSeq (dAsg (dMethD mtFormulas_rows (dBin opIx (dVar 4) (dVar 7)) dNil) (gSet 16)) (dSeq (dIf (dNot (dTest (dCallF M_law_same_rows (dCons (dVar 16) (dCons (dBin opIx (dVar 5) (dVar 7)) (dNil)))))) (dRet (dC (.bl false))) (dSkip)) (dSeq (dDrop (dMeth isLst opAppend (dVar 16) (dCons (dTup (dCons (dC (.str [97])) (dCons (dTup (dNil)) (dNil)))) (dNil)))) (dIf (dNot (dTest (dCallF M_law_same_rows (dCons (dMethD mtFormulas_rows (dBin opIx (dVar 4) (dBin opSub (dC (.int 1)) (dVar 7))) dNil) (dCons (dBin opIx (dVar 5) (dBin opSub (dC (.int 1)) (dVar 7))) (dNil)))))) (dRet (dC (.bl false))) (dSkip)))))))))))))))))) (dRet (dC (.bl true)))))))))
noncomputable def M_law : Sem := runF 1 17 D_law
end Zl
end
section
open Zl PySem PySem.Spec PyProof.Rows L2 TL
local macro_rules | `(tactic| walk_at "zs") => `(tactic| simp only [wp_ok, wp_exc, wp_bad, wp_bnd, wp_bndS, wp_iteb, wps_bnd, wps_nx, wps_rt, wps_bk, wps_ct, wps_exc, wps_bad, optP_some, optP_none, slotZ_0, slotZ_s, zBl_bl, zInt_int, wp_var, wp_C, wp_nil, wp_cons, wp_bin, wp_call, wp_callF, wp_fld, wp_tup, wp_lst, wp_lstO, wp_lstZ, wp_meth, wp_methD, wp_isi, wp_part, wp_part0, wp_sl, wp_andV, wp_notV, wp_chain, wp_test, wp_cmpT, wp_boolT, wp_or, wp_not, wps_skip, wps_seq, wps_asg, wps_set, wps_drop, wps_ret, wps_if, wps_setfld, wps_frz, wps_tryAs, wps_end, wps_for, wp_runF, wp_rng1, wp_callI, itO_dl, add_i, add_s, sub_i, mod_i, div_i, mul_i, mul_s, pow_i, lt_i, le_i, gt_i, ge_i, int_i, int_b, abs_i, len_l, len_t, len_c, len_r, lenO_dl, list_r, listO_dl, tup_t, tup_r, tupO_dl, ix_s, ix_l, ix_t, ix_c, ix_r, ixO_dl, ixO_zl, wp_ixD, eq_d, eq_rd, viewO_dl, wp_eqO, tr_b, isLst_r, isLstO_dl, app_r, appO_dl, pop_r, rev_r, revO_dl, asDs_0, asDs_s, bind_s, endK_nx, endK_rt, endK_ex, tryA_rt, turn_nx, turn_rt, turn_ex, wipe_0, wipe_s, List.set_cons_zero, List.set_cons_succ, List.getElem?_cons_zero, List.getElem?_cons_succ, List.cons_append, List.nil_append, List.length_cons, List.length_nil, List.map_cons, List.map_nil, List.replicate_succ, List.replicate_zero, List.range_zero, Nat.reduceAdd, Nat.reduceSub, Nat.reduceLeDiff, Nat.zero_le, Nat.zero_add, true_and, and_true, reduceIte, Bool.false_eq_true, Bool.true_eq_false, beq_self_eq_true, Bool.not_true, Bool.not_false, if_true, if_false, ne_eq, ty_i, ty_s, ty_t, isa_int_bl, isa_int_int, isa_str_str, isa_tup_tup, isa_lst_lst, gc_new, sl_l, Int.reduceLT, Int.reduceLE, Int.reduceToNat, Int.reduceAbs, Int.reduceEq, Int.reduceNeg, Int.reduceAdd, Int.reduceSub, Int.reduceMul, Nat.reduceLT, Nat.reduceEqDiff, not_false_eq_true, not_true_eq_false, or_true, true_or, false_or, or_false, and_self, peq_ii, frzAt_ok, frzS_r, frzO_dl, decide_eq_true_eq, Bool.not_eq_eq_eq_not, decide_eq_false_iff_not, decide_not, Decidable.not_not, guard_n, popO_dl, Int.toNat_natCast, List.take_succ_cons, List.take_zero, List.take_nil, wp_make, peq_ss, at_0, at_1, nc_2, List.head?_cons, List.tail_cons, wp_iany, itAny_t, itAny_r, set_r, setFO_i, putN_0, putN_s, fld_r, cf_30_34, cf_30_35, ce_30, f_cell, f_value, f_line, f_name, f_function, f_number, f_position, f_place, f_start, f_program, f_lane, f_names, f_size, f_current, f_cells, f_saved, f_source, f_local, f_target, f_inputs, f_steps, f_lanes, f_tracks, f_lengths, f_system, f_plan, f_counts, f_programs, f_tables, f_members, f_found, f_end, f_rule, f_step, f_starts, f_numbers, f_pairs, f_weave, f_known, f_machine, f_scheduler, f_beginning, f_own, wps_raiseX, wp_isX, wp_fldX, excAt_e, map_bl, unZ_d, asIntL_map, wps_wipeS, ditZ_r, wp_nsetd, wp_setd3N, cl_14])
local macro_rules | `(tactic| walk_at "zg") => `(tactic| first | rw [gc_rt (by rfl)] | rw [gc_nx (by rfl)] | rw [gc_exc (by rfl)] | rw [gc_ct (by rfl)] | rw [gc_bk (by rfl)])
local macro_rules | `(tactic| walk_at "zz") => `(tactic| (try walk_at "zs"); repeat (walk_at "zg"; try walk_at "zs"))
section
namespace Zl
open PySem PySem.Spec PyProof.Rows L2
noncomputable section
theorem isnum_ok (i : Int) : M_law_is_number [.d (.int i)] [] = .ok (.d (.bl true)) [] := by
 refine wp_get ?_
 unfold M_law_is_number D_law_is_number
 walk_at "zz"
theorem draw_ok {ds : List D} {n : Int} (hd : Ints ds) (hn : 0 < n) : ∃ v ds', Ints ds' ∧ 0 ≤ v ∧ v < n ∧ M_law_draw [.r 0, .d (.int n)] [.dl ds] = .ok (.d (.int v)) [.dl ds'] := by
 have e0 := peq_nil hd.pd (by decide)
 rcases List.eq_nil_or_concat ds with e | ⟨r, d, e⟩
 · subst e
   refine ⟨0, [], hd, Int.le_refl _, hn, wp_get ?_⟩
   unfold M_law_draw D_law_draw
   walk_at "zz"
   simp only [e0, List.isEmpty_nil]
   walk_at "zz"
 · subst e
   rw [List.concat_eq_append] at hd e0 ⊢
   obtain ⟨i, rfl⟩ := hd d (by simp)
   have e1 : (r ++ [D.int i]).isEmpty = false := by simp
   rw [e1] at e0
   refine ⟨i % n, r, fun x hx => hd x (by simp [hx]), Int.emod_nonneg _ (by omega), Int.emod_lt_of_pos _ hn, wp_get ?_⟩
   unfold M_law_draw D_law_draw
   walk_at "zz"
   simp only [e0]
   walk_at "zz"
   exact hn
theorem draw_w {i : Nat} {ds : List D} {n : Int} {h : ZH} {Q : Z → ZH → Prop} {E : ZX → ZH → Prop} (hi : h[i]? = some (.dl ds)) (hd : Ints ds) (hn : 0 < n) (k : ∀ v ds', Ints ds' → 0 ≤ v → v < n → Q (.d (.int v)) (h.set i (.dl ds'))) : (callZ M_law_draw [.r i, .d (.int n)] h).wp Q E := by
 obtain ⟨v, ds', h1, h2, h3, e⟩ := draw_ok hd hn
 exact wp_eq (callZ_p (xs := [.int n]) hi e) (k v ds' h1 h2 h3)
theorem wp_int {o : Out Z} {h : ZH} (w : o.wp (fun b h1 => (∃ v, b = .d (.int v)) ∧ h1 = h) (fun _ _ => False)) : ∃ v, o = .ok (.d (.int v)) h := by
 obtain ⟨a, h1, e, ⟨v, rfl⟩, rfl⟩ := wp_ex w
 exact ⟨v, e⟩
theorem wp_new {o : Out Z} {P : List D → Prop} (w : o.wp (fun z h => z = .r 0 ∧ ∃ ds, P ds ∧ h = [.dl ds]) (fun _ _ => False)) : ∃ ds, P ds ∧ o = .ok (.r 0) [.dl ds] := by
 obtain ⟨z, h, e, rfl, ds, hd, rfl⟩ := wp_ex w
 exact ⟨ds, hd, e⟩
theorem mixed_ok (a k : Int) : ∃ v, M_law_mixed [.d (.int a), .d (.int k)] [] = .ok (.d (.int v)) [] := by
 have h1 : 0 ≤ (a * 48271 + k * 69621 + 11) % 65537 := Int.emod_nonneg _ (by decide)
 have h2 : (a * 48271 + k * 69621 + 11) % 65537 < 65537 := Int.emod_lt_of_pos _ (by decide)
 have h3 := Int.emod_nonneg (((a * 48271 + k * 69621 + 11) % 65537) * ((a * 48271 + k * 69621 + 11) % 65537) + k * 7919 + 3) (show (64007 : Int) ≠ 0 by decide)
 have h4 := Int.emod_lt_of_pos (((a * 48271 + k * 69621 + 11) % 65537) * ((a * 48271 + k * 69621 + 11) % 65537) + k * 7919 + 3) (show (0 : Int) < 64007 by decide)
 refine wp_int ?_
 unfold M_law_mixed D_law_mixed
 walk_at "zz"
 exact ⟨by omega, by omega, _, rfl⟩
theorem Ints.snoc {ds : List D} (h : Ints ds) (v : Int) : Ints (ds ++ [.int v]) := fun d hd => by
 rcases List.mem_append.mp hd with hd | hd
 · exact h d hd
 · exact ⟨v, by simpa using hd⟩
theorem Ints.rev {ds : List D} (h : Ints ds) : Ints ds.reverse := fun d hd => h d (by simpa using hd)
theorem ixN_ok {n : Nat} {i : Int} (h0 : 0 ≤ i) (h1 : i < n) : ixN n i = some i.toNat := by
 unfold ixN
 rw [if_pos h0]
 simp [h1]
theorem atD_in {xs : List D} {i : Nat} (h : i < xs.length) : atD xs (i : Int) = some xs[i] := by
 unfold atD
 rw [ixN_ok (by omega) (by omega)]
 simp [h]
theorem pool_ok (ns : List Int) (hn : ns.length ≤ 63) : ∃ ds, Ints ds ∧ M_law_pool [.d (.scr (ns.map D.int))] [] = .ok (.r 0) [.dl ds] := by
 refine wp_new ?_
 unfold M_law_pool D_law_pool
 walk_at "zz"
 refine ⟨inR_nat (by rw [List.length_map]; omega), rngW (fun i s h => s = [some (.d (.scr (ns.map D.int))), some (.r 0), none, none, none] ∧ ∃ ds, h = [.dl ds] ∧ Ints ds ∧ ds.length ≤ 60 * i) ⟨rfl, [], rfl, ⟨fun d hd => (by cases hd), by simp⟩⟩ ?_ ?_⟩
 · rintro i s h hi ⟨rfl, ds, rfl, hd, hl⟩
   have hi : i < ns.length := by simpa using hi
   walk_at "zz"
   simp only [atD_in (show i < (ns.map D.int).length by simpa using hi), List.getElem_map]
   walk_at "zz"
   generalize (if ns[i] < 0 then -ns[i] else ns[i]) = L
   by_cases hs : L < 10 ^ Int.toNat 18
   · rw [if_pos (by simpa using hs)]
     walk_at "zz"
     refine ⟨inR_of (by decide) (by decide), rngW (fun j s h => s = [some (.d (.scr (ns.map D.int))), some (.r 0), some (.d (.int i)), some (.d (.int L)), none] ∧ ∃ ds, h = [.dl ds] ∧ Ints ds ∧ ds.length ≤ 60 * i + j) ⟨rfl, ds, rfl, hd, by omega⟩ ?_ ?_⟩
     · rintro j s h hj ⟨rfl, ds, rfl, hd, hl⟩
       walk_at "zz"
       obtain ⟨v, hv⟩ := mixed_ok L (8 * (i : Int) + (j : Int))
       refine callW_eq (xs := [.int L, .int (8 * i + j)]) hv ?_
       walk_at "zz"
       exact ⟨by omega, _, rfl, hd.snoc v, by simp; omega⟩
     · rintro s h ⟨rfl, ds, rfl, hd, hl⟩
       walk_at "zz"
       exact ⟨_, rfl, hd, by omega⟩
   · rw [if_neg (by simpa using hs)]
     walk_at "zz"
     refine ⟨inR_of (by decide) (by decide), rngW (fun j s h => (∃ L, s = [some (.d (.scr (ns.map D.int))), some (.r 0), some (.d (.int i)), some (.d (.int L)), none]) ∧ ∃ ds, h = [.dl ds] ∧ Ints ds ∧ ds.length ≤ 60 * i + j) ⟨⟨L, rfl⟩, ds, rfl, hd, by omega⟩ ?_ ?_⟩
     · rintro j s h hj ⟨⟨L, rfl⟩, ds, rfl, hd, hl⟩
       walk_at "zz"
       by_cases h0 : 0 < L
       · rw [if_pos (by simpa using h0)]
         walk_at "zz"
         exact ⟨by omega, ⟨_, rfl⟩, _, rfl, hd.snoc _, by simp; omega⟩
       · rw [if_neg (by simpa using h0)]
         walk_at "zz"
         exact ⟨⟨_, rfl⟩, _, rfl, hd, by omega⟩
     · rintro s h ⟨⟨L, rfl⟩, ds, rfl, hd, hl⟩
       walk_at "zz"
       exact ⟨_, rfl, hd, by omega⟩
 · rintro s h ⟨rfl, ds, rfl, hd, _⟩
   walk_at "zz"
   exact ⟨_, hd.rev, rfl⟩
end
end Zl
end
section
namespace Zl
open PySem PySem.Spec PyProof.Rows L2
noncomputable section
def Lets (s : List Nat) : Prop := ∀ c ∈ s, 97 ≤ c ∧ c ≤ 122
def NameOk (s : List Nat) : Prop := 1 ≤ s.length ∧ s.length ≤ 8 ∧ Lets s
def NamesOk (ss : List (List Nat)) : Prop := ss.Nodup ∧ ∀ s ∈ ss, NameOk s
abbrev LET : List Nat := [97, 98, 99, 100, 101, 102, 103, 104, 105, 106, 107, 108, 109, 110, 111, 112, 113, 114, 115, 116, 117, 118, 119, 120, 121, 122]
theorem let_ix {v : Int} (h0 : 0 ≤ v) (h1 : v < 26) : ((ixN 26 v).bind fun j => LET[j]?) = some (97 + v.toNat) := by
 rw [ixN_ok h0 (by exact h1)]
 obtain ⟨n, rfl⟩ : ∃ n : Nat, v = n := ⟨v.toNat, by omega⟩
 have hn : n < 26 := by omega
 have H : ∀ n < 26, LET[n]? = some (97 + n) := by decide
 simpa using H n hn
theorem Lets.nil : Lets [] := fun c h => by cases h
theorem Lets.app {a b : List Nat} (ha : Lets a) (hb : Lets b) : Lets (a ++ b) := fun c h => (List.mem_append.mp h).elim (ha c) (hb c)
theorem Lets.one {v : Int} (h0 : 0 ≤ v) (h1 : v < 26) : Lets [97 + v.toNat] := fun c h => by
 have : c = 97 + v.toNat := by simpa using h
 omega
def NmAt (fr bk : List Nat) (sh st : Int) (k : Nat) (s : List Nat) : Prop := ∃ e, s = fr ++ [97 + ((sh + st * k) % 26).toNat] ++ bk ++ e ∧ e.length ≤ 1 ∧ Lets e
theorem nm_ne {fr bk : List Nat} {sh st : Int} {j k : Nat} {s t : List Nat} (hst : st = 1 ∨ st = 25 ∨ st = 7) (hj : j < 26) (hk : k < 26) (hs : NmAt fr bk sh st j s) (ht : NmAt fr bk sh st k t) (e : s = t) : j = k := by
 obtain ⟨a, ea, _, _⟩ := hs
 obtain ⟨b, eb, _, _⟩ := ht
 rw [ea, eb] at e
 have h := congrArg (fun l => l[fr.length]?) e
 simp at h
 have h0 := Int.emod_nonneg (sh + st * j) (show (26 : Int) ≠ 0 by decide)
 have h1 := Int.emod_nonneg (sh + st * k) (show (26 : Int) ≠ 0 by decide)
 have h2 : (sh + st * j) % 26 = (sh + st * k) % 26 := by omega
 rcases hst with rfl | rfl | rfl <;> omega
theorem nm_all {fr bk : List Nat} {sh st : Int} {ss : List (List Nat)} (hst : st = 1 ∨ st = 25 ∨ st = 7) (hf : Lets fr) (hb : Lets bk) (lf : fr.length ≤ 3) (lb : bk.length ≤ 3) (hl : ss.length ≤ 26) (h : ∀ k s, ss[k]? = some s → NmAt fr bk sh st k s) : NamesOk ss := by
 refine ⟨List.pairwise_iff_getElem.mpr fun i j hi hj hij e => ?_, fun s hs => ?_⟩
 · have := nm_ne hst (by omega) (by omega) (h i _ (List.getElem?_eq_getElem hi)) (h j _ (List.getElem?_eq_getElem hj)) e
   omega
 · obtain ⟨k, hk⟩ := List.getElem?_of_mem hs
   obtain ⟨e, rfl, le, he⟩ := h k s hk
   have h0 := Int.emod_nonneg (sh + st * k) (show (26 : Int) ≠ 0 by decide)
   have h1 := Int.emod_lt_of_pos (sh + st * k) (show (0 : Int) < 26 by decide)
   exact ⟨by simp; omega, by simp; omega, ((hf.app (Lets.one h0 h1)).app hb).app he⟩
theorem wp_names {o : Out Z} {n : Nat} (w : o.wp (fun z h => ∃ ss ds', ss.length = n ∧ NamesOk ss ∧ Ints ds' ∧ z = .d (.lst (ss.map D.str)) ∧ h = [.dl ds']) (fun _ _ => False)) : ∃ ss ds', ss.length = n ∧ NamesOk ss ∧ Ints ds' ∧ o = .ok (.d (.lst (ss.map D.str))) [.dl ds'] := by
 obtain ⟨z, h, e, ss, ds', h1, h2, h3, rfl, rfl⟩ := wp_ex w
 exact ⟨ss, ds', h1, h2, h3, e⟩
abbrev W6 : List (List Nat) := [[114, 101, 97, 100], [97, 115], [119, 114, 105, 116, 101], [98, 121], [111, 102], [112, 114, 111, 103, 114, 97, 109]]
theorem names_ok {ds : List D} {n : Nat} (hd : Ints ds) (hn : n ≤ 6) : ∃ ss ds', ss.length = n ∧ NamesOk ss ∧ Ints ds' ∧ M_law_names [.r 0, .d (.int n)] [.dl ds] = .ok (.d (.lst (ss.map D.str))) [.dl ds'] := by
 refine wp_names ?_
 unfold M_law_names D_law_names
 walk_at "zz"
 refine draw_w rfl hd (by decide) fun ch d1 i1 _ _ => ?_
 walk_at "zz"
 by_cases hc : ch = 4
 · rw [if_pos hc]
   walk_at "zz"
   refine ⟨W6.take n, d1, by simp [W6]; omega, ⟨(show W6.Nodup by decide).sublist (List.take_sublist _ _), fun s hs => ?_⟩, i1, ?_, rfl⟩
   · have hs := List.mem_of_mem_take hs
     have H : ∀ s ∈ W6, 1 ≤ s.length ∧ s.length ≤ 8 ∧ ∀ c ∈ s, 97 ≤ c ∧ c ≤ 122 := by decide
     exact H s hs
   · rw [cut_pre, List.map_take]
     rfl
 · rw [if_neg hc]
   walk_at "zz"
   refine draw_w rfl i1 (by decide) fun sh d2 i2 _ _ => ?_
   walk_at "zz"
   refine draw_w rfl i2 (by decide) fun v d3 i3 v0 v1 => ?_
   walk_at "zz"
   obtain ⟨st, hst, est⟩ : ∃ st : Int, (st = 1 ∨ st = 25 ∨ st = 7) ∧ atD [.int 1, .int 25, .int 7] v = some (.int st) := by
     have : v = 0 ∨ v = 1 ∨ v = 2 := by omega
     rcases this with rfl | rfl | rfl
     · exact ⟨1, .inl rfl, rfl⟩
     · exact ⟨25, .inr (.inl rfl), rfl⟩
     · exact ⟨7, .inr (.inr rfl), rfl⟩
   rw [est]
   walk_at "zz"
   refine draw_w rfl i3 (by decide) fun v4 d4 i4 a0 a1 => ?_
   walk_at "zz"
   refine ⟨inR_of (by omega) (by omega), rngW (fun i s h => ∃ fr ds, s = [some (.r 0), some (.d (.int n)), some (.d (.str LET)), some (.d (.int ch)), some (.d (.int sh)), some (.d (.int st)), some (.d (.str fr)), none, none, none, none] ∧ h = [.dl ds] ∧ Ints ds ∧ Lets fr ∧ fr.length = i) ⟨[], _, rfl, rfl, i4, Lets.nil, rfl⟩ ?_ ?_⟩
   · rintro i s h hi ⟨fr, ds, rfl, rfl, hd, hf, lf⟩
     walk_at "zz"
     refine draw_w rfl hd (by decide) fun c d5 i5 c0 c1 => ?_
     walk_at "zz"
     rw [let_ix c0 c1]
     walk_at "zz"
     exact ⟨by omega, _, _, rfl, rfl, i5, hf.app (Lets.one c0 c1), by simp [lf]⟩
   rintro s h ⟨fr, d5, rfl, rfl, i5, hf, lf⟩
   walk_at "zz"
   refine draw_w rfl i5 (by decide) fun v6 d6 i6 b0 b1 => ?_
   walk_at "zz"
   refine ⟨inR_of (by omega) (by omega), rngW (fun i s h => ∃ bk ds, s = [some (.r 0), some (.d (.int n)), some (.d (.str LET)), some (.d (.int ch)), some (.d (.int sh)), some (.d (.int st)), some (.d (.str fr)), none, some (.d (.str bk)), none, none] ∧ h = [.dl ds] ∧ Ints ds ∧ Lets bk ∧ bk.length = i) ⟨[], _, rfl, rfl, i6, Lets.nil, rfl⟩ ?_ ?_⟩
   · rintro i s h hi ⟨bk, ds, rfl, rfl, hd, hf, lf⟩
     walk_at "zz"
     refine draw_w rfl hd (by decide) fun c d5 i5 c0 c1 => ?_
     walk_at "zz"
     rw [let_ix c0 c1]
     walk_at "zz"
     exact ⟨by omega, _, _, rfl, rfl, i5, hf.app (Lets.one c0 c1), by simp [lf]⟩
   intro s h hI
   obtain ⟨bk, d7, es, eh, i7, hb, lb⟩ := hI
   rw [es, eh]
   walk_at "zz"
   have hR : InR (n : Int) := inR_nat (by omega)
   refine ⟨hR, rngW (fun i s h => ∃ ss, s = [some (.r 0), some (.d (.int n)), some (.d (.str LET)), some (.d (.int ch)), some (.d (.int sh)), some (.d (.int st)), some (.d (.str fr)), none, some (.d (.str bk)), some (.r 1), none] ∧ h = [.dl d7, .dl (ss.map D.str)] ∧ ss.length = i ∧ ∀ k s, ss[k]? = some s → NmAt fr bk sh st k s) ⟨[], rfl, rfl, rfl, fun k s e => by cases e⟩ ?_ ?_⟩
   · rintro i s h hi ⟨ss, rfl, rfl, ls, hs⟩
     have hi : i < n := by omega
     walk_at "zz"
     have m0 := Int.emod_nonneg (sh + st * (i : Int)) (show (26 : Int) ≠ 0 by decide)
     have m1 := Int.emod_lt_of_pos (sh + st * (i : Int)) (show (0 : Int) < 26 by decide)
     refine ⟨.inr (by omega), ?_⟩
     rw [let_ix m0 m1]
     walk_at "zz"
     have l1 : (fr ++ [97 + ((sh + st * (i : Int)) % 26).toNat]).length = fr.length + 1 := by simp
     have nx : ∀ e : List Nat, e.length ≤ 1 → Lets e → ∀ k s, (ss ++ [fr ++ [97 + ((sh + st * (i : Int)) % 26).toNat] ++ bk ++ e])[k]? = some s → NmAt fr bk sh st k s := fun e le he k s hk => by
       by_cases hlt : k < ss.length
       · rw [List.getElem?_append_left hlt] at hk
         exact hs k s hk
       · rw [List.getElem?_append_right (by omega)] at hk
         have hk0 : k - ss.length = 0 := by
           have := (List.getElem?_eq_some_iff.mp hk).1
           simp at this
           omega
         rw [hk0] at hk
         have hk2 : k = i := by omega
         cases hk
         subst hk2
         exact ⟨e, rfl, le, he⟩
     refine ⟨by omega, by rw [l1]; omega, ?_⟩
     by_cases hc2 : ch = 2
     · rw [if_pos hc2]
       walk_at "zz"
       have q0 := Int.emod_nonneg (i : Int) (show (2 : Int) ≠ 0 by decide)
       have q1 := Int.emod_lt_of_pos (i : Int) (show (0 : Int) < 2 by decide)
       rw [let_ix (v := (i : Int)) (by omega) (by omega)]
       walk_at "zz"
       have le : (if (i : Int) % 2 < 1 then ([] : List Nat) else [97 + (i : Int).toNat]).length ≤ 1 := by split <;> simp
       have he : Lets (if (i : Int) % 2 < 1 then ([] : List Nat) else [97 + (i : Int).toNat]) := by
         split
         · exact Lets.nil
         · exact Lets.one (by omega) (by omega)
       rw [show 97 + (i : Int).toNat = 97 + i by omega] at le he
       exact ⟨⟨by omega, by omega⟩, by rw [List.length_append, l1]; omega, by rw [List.length_map]; omega, ss ++ [_], by rw [List.map_append]; rfl, by simp [ls], nx _ le he⟩
     · rw [if_neg hc2]
       walk_at "zz"
       refine ⟨by rw [List.length_map]; omega, ss ++ [_], by rw [List.map_append]; rfl, by simp [ls], ?_⟩
       have := nx [] (by simp) Lets.nil
       rw [List.append_nil] at this
       exact this
   · intro s h hI
     obtain ⟨ss, es, eh, ls, hs⟩ := hI
     rw [es, eh]
     walk_at "zz"
     exact ⟨ss, d7, ls, nm_all hst hf hb (by omega) (by omega) (by omega) hs, i7, rfl, rfl⟩
theorem names_w {i n : Nat} {ds : List D} {h : ZH} {Q : Z → ZH → Prop} {E : ZX → ZH → Prop} (hi : h[i]? = some (.dl ds)) (hd : Ints ds) (hn : n ≤ 6) (k : ∀ ss ds', ss.length = n → NamesOk ss → Ints ds' → Q (.d (.lst (ss.map D.str))) (h.set i (.dl ds'))) : (callZ M_law_names [.r i, .d (.int n)] h).wp Q E := by
 obtain ⟨ss, ds', h1, h2, h3, e⟩ := names_ok hd hn
 exact wp_eq (callZ_p (xs := [.int n]) hi e) (k ss ds' h1 h2 h3)
end
end Zl
end
section
namespace Zl
open PySem PySem.Spec PyProof.Rows L2 TL
noncomputable section
abbrev READ : List Nat := [114, 101, 97, 100]
abbrev AS : List Nat := [97, 115]
abbrev WRITE : List Nat := [119, 114, 105, 116, 101]
abbrev BY : List Nat := [98, 121]
abbrev OF : List Nat := [111, 102]
inductive Stp where
 | rd (s l : List Nat)
 | wr (t f : List Nat) (is : List (List Nat))
 | rw (s l t f : List Nat) (is : List (List Nat))
namespace Stp
def row : Stp → D
 | rd s l => .tup [.str s, .str l, .non, .non, .tup []]
 | wr t f is => .tup [.non, .non, .str t, .str f, .tup (is.map .str)]
 | rw s l t f is => .tup [.str s, .str l, .str t, .str f, .tup (is.map .str)]
def obj : Stp → D
 | rd s l => .obj cRead [.str s, .str l]
 | wr t f is => .obj cWrite [.str t, .str f, .tup (is.map .str)]
 | rw s l t f is => .obj cReadWrite [.str s, .str l, .str t, .str f, .tup (is.map .str)]
def ofW (is : List (List Nat)) : List (List Nat) := if is = [] then [] else OF :: is
def rdW (s l : List Nat) : List (List Nat) := [READ, s, AS, l]
def wrW (t f : List Nat) (is : List (List Nat)) : List (List Nat) := [WRITE, t, BY, f] ++ ofW is
def words : Stp → List (List Nat)
 | rd s l => rdW s l
 | wr t f is => wrW t f is
 | rw s l t f is => rdW s l ++ wrW t f is
def line (s : Stp) : List Nat := joinL [32] s.words
def locals : Stp → List (List Nat)
 | rd _ l => [l]
 | wr _ _ _ => []
 | rw _ l _ _ _ => [l]
def ins : Stp → List (List Nat)
 | rd _ _ => []
 | wr _ _ is => is
 | rw _ _ _ _ is => is
def names : Stp → List (List Nat)
 | rd s l => [s, l]
 | wr t f _ => [t, f]
 | rw s l t f _ => [s, l, t, f]
def Ok (known : List (List Nat)) (s : Stp) : Prop := (∀ x ∈ s.names, NameOk x) ∧ s.ins.length ≤ 3 ∧ ∀ x ∈ s.ins, x ∈ known ++ s.locals ∧ NameOk x
end Stp
def Stp.src : Stp → Option (List Nat)
 | .rd s _ => some s
 | .wr _ _ _ => none
 | .rw s _ _ _ _ => some s
def Stp.tgt : Stp → Option (List Nat)
 | .rd _ _ => none
 | .wr t _ _ => some t
 | .rw _ _ t _ _ => some t
def Stp.use (st : Stp) : List (List Nat) := st.src.toList ++ st.tgt.toList
def Stp.fn : Stp → Option (List Nat × Nat)
 | .rd _ _ => none
 | .wr _ f is => some (f, is.length)
 | .rw _ _ _ f is => some (f, is.length)
end
end Zl
end
section
namespace Zl
open PySem PySem.Spec PyProof.Rows L2 TL
noncomputable section
end
end Zl
end
section
namespace Zl
open PySem PySem.Spec PyProof.Rows L2 TL
noncomputable section
def OkS : List (List Nat) → List Stp → Prop
 | _, [] => True
 | known, s :: r => s.Ok known ∧ OkS (known ++ s.locals) r
theorem NameOk.no {s : List Nat} (h : NameOk s) {c : Nat} (hc : c < 97) : c ∉ s := fun m => by
 have := h.2.2 c m
 omega
theorem OkS.at_ : ∀ {sts : List Stp} {K : List (List Nat)} {i : Nat} {st : Stp}, OkS K sts → sts[i]? = some st → st.Ok (K ++ (sts.take i).flatMap Stp.locals)
 | s :: r, K, 0, st, h, e => by
   cases e
   simpa using h.1
 | s :: r, K, i + 1, st, h, e => by
   have := OkS.at_ h.2 (by simpa using e)
   simpa [List.flatMap_cons, List.append_assoc] using this
end
end Zl
end
section
namespace Zl
open PySem PySem.Spec PyProof.Rows L2 TL
noncomputable section
end
end Zl
end
section
namespace Zl
open PySem PySem.Spec PyProof.Rows L2 TL
noncomputable section
theorem OkS.snoc {st : Stp} : ∀ {sts : List Stp} {K : List (List Nat)}, OkS K sts → st.Ok (K ++ sts.flatMap Stp.locals) → OkS K (sts ++ [st])
 | [], K, _, o => ⟨by simpa using o, trivial⟩
 | s :: r, K, h, o => ⟨h.1, OkS.snoc h.2 (by simpa [List.flatMap_cons, List.append_assoc] using o)⟩
end
end Zl
end
section
namespace Zl
open PySem PySem.Spec PyProof.Rows L2 TL
noncomputable section
theorem pool_w {ns : List Int} {Q : Z → ZH → Prop} {E : ZX → ZH → Prop} (hn : ns.length ≤ 63) (k : ∀ ds, Ints ds → Q (.r 0) [.dl ds]) : (callZ M_law_pool [.d (.scr (ns.map D.int))] []).wp Q E := by
 obtain ⟨ds, hd, e⟩ := pool_ok ns hn
 have e2 : callZ M_law_pool [.d (.scr (ns.map D.int))] [] = .ok (.r 0) [.dl ds] := by
   have r : reach ([] : ZH) 40 ([Z.d (.scr (ns.map D.int))].flatMap refsZ) [] = [] := rfl
   have c : closedB [] [] [Z.d (.scr (ns.map D.int))] = true := rfl
   unfold callZ
   dsimp only
   rw [r, if_pos c, show [Z.d (.scr (ns.map D.int))].map (renZ []) = [.d (.scr (ns.map D.int))] from rfl, List.map_nil, e]
   rfl
 exact wp_eq e2 (k ds hd)
end
end Zl
end
section
namespace Zl
open PySem PySem.Spec PyProof.Rows L2 TL
noncomputable section
abbrev Row := List Nat × List Int
theorem nkDs_int : ∀ {ns : List Int}, nkDs (ns.map .int) = some (ns.map .num)
 | [] => rfl
 | n :: r => by
   rw [List.map_cons]
   unfold nkDs
   rw [nkDs_int]
   rfl
theorem nkD_pr {p : Row} : nkD (prSD p) = some (.tup [.text (mkS p.1), .tup (p.2.map .num)]) := by
 have h : nkD (.tup (p.2.map .int)) = some (.tup (p.2.map .num)) := by
   unfold nkD
   rw [nkDs_int]
   rfl
 unfold prSD nkD nkDs nkDs nkDs
 rw [h]
 rfl
theorem num_inj : ∀ {a b : List Int}, a.map NestedKey.num = b.map NestedKey.num → a = b
 | [], [], _ => rfl
 | [], y :: b, h => by simp at h
 | x :: a, [], h => by simp at h
 | x :: a, y :: b, h => by
   rw [List.map_cons, List.map_cons] at h
   injection h with h1 h2
   injection h1 with h1
   rw [h1, num_inj h2]
theorem nkE_pr {p q : Row} : nkE (prSD p) (prSD q) = decide (p = q) := by
 unfold nkE
 rw [nkD_pr, nkD_pr, decide_eq_decide]
 constructor
 · intro h
   injection h with h
   injection h with h
   injection h with h1 h2
   injection h1 with h1
   injection h2 with h2
   injection h2 with h2
   have e1 := mkS_inj h1
   have e2 : p.2 = q.2 := num_inj h2
   exact Prod.ext e1 e2
 · intro h
   rw [h]
theorem depth_numI : ∀ {ns : List Int}, (NestedKey.tup (ns.map .num)).depth ≤ 1
 | [] => by simp [NestedKey.depth, NestedKey.depthAll]
 | n :: r => by
   have := depth_numI (ns := r)
   simp [NestedKey.depth, NestedKey.depthAll] at *
   exact this
theorem keyN_pr {p : Row} : ∃ k, keyN (prSD p) = some k := by
 refine ⟨.tup [.text (mkS p.1), .tup (p.2.map .num)], ?_⟩
 unfold keyN
 rw [nkD_pr]
 dsimp only
 rw [if_pos]
 have := depth_numI (ns := p.2)
 simp [NestedKey.depth, NestedKey.depthAll] at *
 omega
def numsF (st : Nat) : Nat → List D
 | 0 => []
 | n + 1 => .int (st : Int) :: numsF (st + 1) n
theorem numsF_snoc : ∀ {n st : Nat}, numsF st (n + 1) = numsF st n ++ [.int ((st + n : Nat) : Int)]
 | 0, st => rfl
 | n + 1, st => by
   show .int (st : Int) :: numsF (st + 1) (n + 1) = .int (st : Int) :: (numsF (st + 1) n ++ _)
   rw [numsF_snoc, show st + 1 + n = st + (n + 1) by omega]
theorem valN_pr {p : Row} : ∀ {R : List Row} {st : Nat}, valN (R.map prSD) (numsF st R.length) (prSD p) = if p ∈ R then some (.int ((st + R.idxOf p : Nat) : Int)) else none
 | [], st => by
   rw [if_neg (fun h => by cases h)]
   exact valN_n
 | q :: R, st => by
   rw [List.map_cons, List.length_cons, show numsF st (R.length + 1) = .int (st : Int) :: numsF (st + 1) R.length from rfl, valN_c, nkE_pr, List.idxOf_cons]
   by_cases h : q = p
   · rw [decide_eq_true h, if_pos rfl, if_pos (by rw [h]; exact List.mem_cons_self ..), h, beq_self_eq_true]
     rfl
   · rw [decide_eq_false h, if_neg Bool.false_ne_true, valN_pr, beq_eq_false_iff_ne.mpr h]
     by_cases hm : p ∈ R
     · rw [if_pos hm, if_pos (List.mem_cons_of_mem _ hm), show st + 1 + R.idxOf p = st + (bif false then 0 else R.idxOf p + 1) by rw [cond_false]; omega]
     · rw [if_neg hm, if_neg (fun z => (List.mem_cons.mp z).elim (fun e => h e.symm) hm)]
end
end Zl
end
section
namespace Zl
open PySem PySem.Spec PyProof.Rows L2 TL
noncomputable section
theorem pre_snocF {α : Type} {P : α → Prop} {R : List α} {d : Nat} {v : α} (pre : ∀ y ∈ R.take d, P y) (h : R[d]? = some v) (g : P v) : ∀ y ∈ R.take (d + 1), P y := by
 rw [List.take_add_one, h]
 intro y hy
 rcases List.mem_append.mp hy with hy | hy
 · exact pre y hy
 · rw [List.mem_singleton.mp hy]; exact g
def fmO (st : Nat) (j : Nat) : ZO := .ins cFormulas [(f_starts, .d (.int (st : Int))), (f_numbers, .r j)]
def fmD (st : Nat) (R : List Row) : ZO := .dit (R.map prSD) (numsF st R.length)
def badA (m : Nat) (as : List Int) : Option Int := as.find? fun a => !(decide (0 ≤ a) && decide (a < (m : Int)))
def addR (R : List Row) (p : Row) : List Row := if p ∈ R then R else R ++ [p]
theorem find_atI {α : Type} {f : α → Bool} : ∀ {R : List α} {d : Nat} {v : α}, (∀ y ∈ R.take d, f y = false) → R[d]? = some v → f v = true → R.find? f = some v
 | [], d, v, _, e, _ => by cases e
 | x :: R, 0, v, _, e, h => by cases e; rw [List.find?_cons, h]
 | x :: R, d + 1, v, pre, e, h => by
   rw [List.find?_cons, pre x (List.mem_cons_self ..)]
   exact find_atI (d := d) (fun y hy => pre y (List.mem_cons_of_mem _ hy)) e h
theorem apply_t {st : Nat} {R : List Row} {f : List Nat} {as : List Int} (hs : st ≤ 1000) (hl : R.length ≤ 1000) (ha : as.length ≤ 1000) :
   (M_Formulas_apply [.r 0, .d (.str f), .d (.tup (as.map .int))] [fmO st 1, fmD st R]).wp
     (fun z h => badA (st + R.length) as = none ∧ z = .d (.int ((st + R.idxOf (f, as) : Nat) : Int)) ∧ h = [fmO st 1, fmD st (addR R (f, as))])
     (fun x h => ∃ b, badA (st + R.length) as = some b ∧ x = ⟨cUnknownFormula, [.int b]⟩ ∧ h = [fmO st 1, fmD st R]) := by
 unfold M_Formulas_apply D_Formulas_apply
 walk_at "zs"
 rw [show fldO f_starts (some (fmO st 1)) = some (.d (.int (st : Int))) from rfl]
 walk_at "zs"
 rw [show fldO f_numbers (some (fmO st 1)) = some (.r 1) from rfl]
 walk_at "zs"
 rw [wp_lenD, ditZ_r]
 walk_at "zs"
 rw [show ditO' (some (fmD st R)) = some (R.map prSD, numsF st R.length) from rfl]
 walk_at "zs"
 rw [List.length_map]
 refine ⟨by omega, ?_⟩
 refine lstW (fun d s h => s = [some (.r 0), some (.d (.str f)), some (.d (.tup (as.map .int))), some (.d (.int ((st : Int) + (R.length : Int)))), none] ∧ h = [fmO st 1, fmD st R] ∧ ∀ a ∈ as.take d, 0 ≤ a ∧ a < (st : Int) + (R.length : Int)) ⟨rfl, rfl, fun v hv => by cases hv⟩ ?_ ?_
 · rintro d x s h hx ⟨es, eh, pre⟩
   rw [List.getElem?_map] at hx
   cases e : as[d]? with
   | none => rw [e] at hx; cases hx
   | some a =>
     rw [e] at hx
     cases hx
     rw [es, eh]
     walk_at "zs"
     have bad : ¬ (0 ≤ a ∧ a < (st : Int) + (R.length : Int)) → badA (st + R.length) as = some a := fun hb =>
       find_atI (f := fun a => !(decide (0 ≤ a) && decide (a < ((st + R.length : Nat) : Int)))) (fun y hy => by
         obtain ⟨y1, y2⟩ := pre y hy
         rw [decide_eq_true y1, decide_eq_true (show y < ((st + R.length : Nat) : Int) by omega)]; rfl) e (by
         by_cases h0 : 0 ≤ a
         · rw [decide_eq_true h0, decide_eq_false (fun z => hb ⟨h0, by omega⟩)]; rfl
         · rw [decide_eq_false h0]; rfl)
     by_cases h0 : 0 ≤ a
     · rw [if_pos h0]
       walk_at "zs"
       by_cases h1 : a < (st : Int) + (R.length : Int)
       · rw [if_neg (fun z => z h1)]
         walk_at "zz"
         exact pre_snocF (P := fun a => 0 ≤ a ∧ a < (st : Int) + (R.length : Int)) pre e ⟨h0, h1⟩
       · rw [if_pos h1]
         walk_at "zz"
         first | exact bad fun z => h1 z.2 | exact ⟨a, bad fun z => h1 z.2, rfl⟩ | exact ⟨a, bad fun z => h1 z.2, rfl, rfl⟩
     · rw [if_neg h0]
       walk_at "zz"
       first | exact bad fun z => h0 z.1 | exact ⟨a, bad fun z => h0 z.1, rfl⟩ | exact ⟨a, bad fun z => h0 z.1, rfl, rfl⟩
 · rintro s h ⟨es, eh, pre⟩
   rw [List.length_map, List.take_length] at pre
   have none_ : badA (st + R.length) as = none := List.find?_eq_none.mpr fun y hy => by
     obtain ⟨y1, y2⟩ := pre y hy
     rw [decide_eq_true y1, decide_eq_true (show y < ((st + R.length : Nat) : Int) by omega)]
     exact Bool.false_ne_true
   rw [es, eh]
   walk_at "zs"
   rw [show fldO f_numbers (some (fmO st 1)) = some (.r 1) from rfl]
   walk_at "zs"
   rw [show ditO' (some (fmD st R)) = some (R.map prSD, numsF st R.length) from rfl]
   walk_at "zs"
   try rw [wp_setd3N]
   try walk_at "zs"
   try rw [show ditO' (some (fmD st R)) = some (R.map prSD, numsF st R.length) from rfl]
   try walk_at "zs"
   rw [show D.tup [.str f, .tup (as.map .int)] = prSD (f, as) from rfl, valN_pr]
   obtain ⟨kk, ek⟩ := keyN_pr (p := (f, as))
   by_cases hm : (f, as) ∈ R
   · rw [if_pos hm, putTk_old (i := 1) (ks := R.map prSD) (ds := numsF st R.length) rfl (by rw [List.length_map]; omega) ek (by rw [valN_pr, if_pos hm]), setdNQ_s]
     walk_at "zz"
     refine ⟨none_, ?_⟩
     unfold addR
     rw [if_pos hm]
   · rw [if_neg hm, putTk_new (i := 1) (ks := R.map prSD) (ds := numsF st R.length) rfl (by rw [List.length_map]; omega) ek (by rw [valN_pr, if_neg hm]), setdNQ_n]
     walk_at "zz"
     refine ⟨none_, ?_, ?_⟩
     · rw [show R.idxOf (f, as) = R.length from List.idxOf_eq_length hm]
       rfl
     · unfold addR fmD
       rw [if_neg hm, List.map_append, List.length_append, List.length_singleton, numsF_snoc]
       rfl
end
end Zl
end
section
namespace Zl
open PySem PySem.Spec PyProof.Rows L2 TL
noncomputable section
theorem apply_r {st : Nat} {R : List Row} {f : List Nat} {as : List Int} (hs : st ≤ 1000) (hl : R.length ≤ 1000) (ha : as.length ≤ 1000) :
   (M_Formulas_apply [.r 0, .d (.str f), .r 2] [fmO st 1, fmD st R, .dl (as.map .int)]).wp
     (fun z h => badA (st + R.length) as = none ∧ z = .d (.int ((st + R.idxOf (f, as) : Nat) : Int)) ∧ h = [fmO st 1, fmD st (addR R (f, as)), .dl (as.map .int)])
     (fun x h => ∃ b, badA (st + R.length) as = some b ∧ x = ⟨cUnknownFormula, [.int b]⟩ ∧ h = [fmO st 1, fmD st R, .dl (as.map .int)]) := by
 unfold M_Formulas_apply D_Formulas_apply
 walk_at "zs"
 rw [show fldO f_starts (some (fmO st 1)) = some (.d (.int (st : Int))) from rfl]
 walk_at "zs"
 rw [show fldO f_numbers (some (fmO st 1)) = some (.r 1) from rfl]
 walk_at "zs"
 rw [wp_lenD, ditZ_r]
 walk_at "zs"
 rw [show ditO' (some (fmD st R)) = some (R.map prSD, numsF st R.length) from rfl]
 walk_at "zs"
 rw [List.length_map]
 refine ⟨by omega, ?_⟩
 refine lstW (fun d s h => s = [some (.r 0), some (.d (.str f)), some (.r 2), some (.d (.int ((st : Int) + (R.length : Int)))), none] ∧ h = [fmO st 1, fmD st R, .dl (as.map .int)] ∧ ∀ a ∈ as.take d, 0 ≤ a ∧ a < (st : Int) + (R.length : Int)) ⟨rfl, rfl, fun v hv => by cases hv⟩ ?_ ?_
 · rintro d x s h hx ⟨es, eh, pre⟩
   rw [List.getElem?_map] at hx
   cases e : as[d]? with
   | none => rw [e] at hx; cases hx
   | some a =>
     rw [e] at hx
     cases hx
     rw [es, eh]
     walk_at "zs"
     have bad : ¬ (0 ≤ a ∧ a < (st : Int) + (R.length : Int)) → badA (st + R.length) as = some a := fun hb =>
       find_atI (f := fun a => !(decide (0 ≤ a) && decide (a < ((st + R.length : Nat) : Int)))) (fun y hy => by
         obtain ⟨y1, y2⟩ := pre y hy
         rw [decide_eq_true y1, decide_eq_true (show y < ((st + R.length : Nat) : Int) by omega)]; rfl) e (by
         by_cases h0 : 0 ≤ a
         · rw [decide_eq_true h0, decide_eq_false (fun z => hb ⟨h0, by omega⟩)]; rfl
         · rw [decide_eq_false h0]; rfl)
     by_cases h0 : 0 ≤ a
     · rw [if_pos h0]
       walk_at "zs"
       by_cases h1 : a < (st : Int) + (R.length : Int)
       · rw [if_neg (fun z => z h1)]
         walk_at "zz"
         exact ⟨rfl, pre_snocF (P := fun a => 0 ≤ a ∧ a < (st : Int) + (R.length : Int)) pre e ⟨h0, h1⟩⟩
       · rw [if_pos h1]
         walk_at "zz"
         first | exact bad fun z => h1 z.2 | exact ⟨a, bad fun z => h1 z.2, rfl⟩ | exact ⟨a, bad fun z => h1 z.2, rfl, rfl⟩
     · rw [if_neg h0]
       walk_at "zz"
       first | exact bad fun z => h0 z.1 | exact ⟨a, bad fun z => h0 z.1, rfl⟩ | exact ⟨a, bad fun z => h0 z.1, rfl, rfl⟩
 · rintro s h ⟨es, eh, pre⟩
   rw [List.length_map, List.take_length] at pre
   have none_ : badA (st + R.length) as = none := List.find?_eq_none.mpr fun y hy => by
     obtain ⟨y1, y2⟩ := pre y hy
     rw [decide_eq_true y1, decide_eq_true (show y < ((st + R.length : Nat) : Int) by omega)]
     exact Bool.false_ne_true
   rw [es, eh]
   walk_at "zs"
   rw [show fldO f_numbers (some (fmO st 1)) = some (.r 1) from rfl]
   walk_at "zs"
   rw [show ditO' (some (fmD st R)) = some (R.map prSD, numsF st R.length) from rfl]
   walk_at "zs"
   try rw [wp_setd3N]
   try walk_at "zs"
   try rw [show ditO' (some (fmD st R)) = some (R.map prSD, numsF st R.length) from rfl]
   try walk_at "zs"
   rw [show D.tup [.str f, .tup (as.map .int)] = prSD (f, as) from rfl, valN_pr]
   obtain ⟨kk, ek⟩ := keyN_pr (p := (f, as))
   by_cases hm : (f, as) ∈ R
   · rw [if_pos hm, putTk_old (i := 1) (ks := R.map prSD) (ds := numsF st R.length) rfl (by rw [List.length_map]; omega) ek (by rw [valN_pr, if_pos hm]), setdNQ_s]
     walk_at "zz"
     refine ⟨none_, ?_⟩
     unfold addR
     rw [if_pos hm]
   · rw [if_neg hm, putTk_new (i := 1) (ks := R.map prSD) (ds := numsF st R.length) rfl (by rw [List.length_map]; omega) ek (by rw [valN_pr, if_neg hm]), setdNQ_n]
     walk_at "zz"
     refine ⟨none_, ?_, ?_⟩
     · rw [show R.idxOf (f, as) = R.length from List.idxOf_eq_length hm]
       rfl
     · unfold addR fmD
       rw [if_neg hm, List.map_append, List.length_append, List.length_singleton, numsF_snoc]
       rfl
end
end Zl
end
section
namespace Zl
open PySem PySem.Spec PyProof.Rows L2 TL
def words (l : List Nat) : List (List Nat) := spl [32] 0 [] l
end Zl
end
section
namespace Zl
open PySem PySem.Spec PyProof.Rows L2 TL
noncomputable section
end
end Zl
end
section
namespace Zl
open PySem PySem.Spec PyProof.Rows L2 TL
noncomputable section
end
end Zl
end
section
namespace Zl
open PySem PySem.Spec PyProof.Rows L2 TL
noncomputable section
theorem callG {M : Sem} {zs zs' : List Z} {h h0 : ZH} {QZ : Z → ZH → Prop} {E : ZX → ZH → Prop} (fp : List Nat) (hfp : reach h 40 (zs.flatMap refsZ) [] = fp) (hc : closedB h fp zs = true) (e1 : zs.map (renZ fp) = zs') (e2 : (fp.map fun i => renO fp (h.getD i .gone)) = h0)
   (w : (M zs' h0).wp (fun z os => QZ (unZ fp h.length z) (putBack fp h os)) (fun x os => E x (putBack fp h os))) : (callZ M zs h).wp QZ E := by
 with_unfolding_all
   unfold callZ
   dsimp only
   rw [hfp, if_pos hc, e1, e2]
   cases k : M zs' h0 with
   | ok z os => rw [k] at w; dsimp only; rw [wp_ok] at *; exact w
   | exc x os => rw [k] at w; dsimp only; rw [wp_exc] at *; exact w
   | bad => rw [k] at w; rw [wp_bad] at w; exact w.elim
end
end Zl
end
section
namespace Zl
open PySem PySem.Spec PyProof.Rows L2 TL
noncomputable section
theorem call_t {st : Nat} {R : List Row} {f : List Nat} {as : List Int} (hs : st ≤ 1000) (hl : R.length ≤ 1000) (ha : as.length ≤ 1000) :
   (M_Formulas_call [.r 0, .d (.str f), .d (.tup (as.map .int))] [fmO st 1, fmD st R]).wp
     (fun z h => badA (st + R.length) as = none ∧ z = .d (.int ((st + R.idxOf (f, as) : Nat) : Int)) ∧ h = [fmO st 1, fmD st (addR R (f, as))])
     (fun x h => ∃ b, badA (st + R.length) as = some b ∧ x = ⟨cUnknownFormula, [.int b]⟩ ∧ h = [fmO st 1, fmD st R]) := by
 unfold M_Formulas_call D_Formulas_call
 walk_at "zs"
 rw [show ∀ h, (clsZ (Z.r 0) (fmO st 1 :: h)).bind mtSelfFormulas_apply = some M_Formulas_apply from fun _ => rfl]
 walk_at "zs"
 refine callG (zs' := [.r 0, .d _, .d _]) (h0 := [fmO st 1, fmD st R]) [0, 1] rfl rfl rfl rfl ?_
 refine Out.wp_mono (apply_t hs hl ha) (fun z os hz => ?_) (fun x os hz => ?_)
 · obtain ⟨hb, rfl, rfl⟩ := hz
   walk_at "zz"
   exact ⟨hb, rfl⟩
 · obtain ⟨b, hb, rfl, rfl⟩ := hz
   walk_at "zz"
   exact ⟨b, hb, rfl, rfl⟩
theorem call_r {st : Nat} {R : List Row} {f : List Nat} {as : List Int} (hs : st ≤ 1000) (hl : R.length ≤ 1000) (ha : as.length ≤ 1000) :
   (M_Formulas_call [.r 0, .d (.str f), .r 2] [fmO st 1, fmD st R, .dl (as.map .int)]).wp
     (fun z h => badA (st + R.length) as = none ∧ z = .d (.int ((st + R.idxOf (f, as) : Nat) : Int)) ∧ h = [fmO st 1, fmD st (addR R (f, as)), .dl (as.map .int)])
     (fun x h => ∃ b, badA (st + R.length) as = some b ∧ x = ⟨cUnknownFormula, [.int b]⟩ ∧ h = [fmO st 1, fmD st R, .dl (as.map .int)]) := by
 unfold M_Formulas_call D_Formulas_call
 walk_at "zs"
 rw [show ∀ h, (clsZ (Z.r 0) (fmO st 1 :: h)).bind mtSelfFormulas_apply = some M_Formulas_apply from fun _ => rfl]
 walk_at "zs"
 refine callG (zs' := [.r 0, .d _, .r 2]) (h0 := [fmO st 1, fmD st R, .dl (as.map .int)]) [0, 1, 2] rfl rfl rfl rfl ?_
 refine Out.wp_mono (apply_r hs hl ha) (fun z os hz => ?_) (fun x os hz => ?_)
 · obtain ⟨hb, rfl, rfl⟩ := hz
   walk_at "zz"
   exact ⟨hb, rfl⟩
 · obtain ⟨b, hb, rfl, rfl⟩ := hz
   walk_at "zz"
   exact ⟨b, hb, rfl, rfl⟩
def NUMB : List Nat := [110, 117, 109, 98, 101, 114]
def UNKN : List Nat := [117, 110, 107, 110, 111, 119, 110]
def toldD (st : Nat) (R : List Row) (f : List Nat) (as : List Int) : D := match badA (st + R.length) as with
 | some b => .tup [.str UNKN, .int b]
 | none => .tup [.str NUMB, .int ((st + R.idxOf (f, as) : Nat) : Int)]
def nextR (st : Nat) (R : List Row) (f : List Nat) (as : List Int) : List Row := match badA (st + R.length) as with
 | some _ => R
 | none => addR R (f, as)
theorem called_t {st : Nat} {R : List Row} {f : List Nat} {as : List Int} (hs : st ≤ 1000) (hl : R.length ≤ 1000) (ha : as.length ≤ 1000) :
   M_law_called [.r 0, .d (.str f), .d (.tup (as.map .int))] [fmO st 1, fmD st R] = .ok (.d (toldD st R f as)) [fmO st 1, fmD st (nextR st R f as)] := by
 refine wp_get ?_
 unfold M_law_called D_law_called
 walk_at "zs"
 rw [show clsZ (Z.r 0) [fmO st 1, fmD st R] = some cFormulas from rfl]
 refine ⟨rfl, ?_⟩
 rw [show (some cFormulas).bind mtO_callFormulas = some M_Formulas_call from rfl]
 walk_at "zs"
 refine callG (zs' := [.r 0, .d _, .d _]) (h0 := [fmO st 1, fmD st R]) [0, 1] rfl rfl rfl rfl ?_
 refine Out.wp_mono (call_t hs hl ha) (fun z os hz => ?_) (fun x os hz => ?_)
 · obtain ⟨hb, rfl, rfl⟩ := hz
   unfold toldD nextR
   rw [hb]
   walk_at "zz"
   first | rfl | exact ⟨rfl, rfl⟩ | done
 · obtain ⟨b, hb, rfl, rfl⟩ := hz
   unfold toldD nextR
   rw [hb]
   rw [tryA_ex rfl]
   refine sameRt (z := .d (.tup [.str UNKN, .int b])) (h' := [fmO st 1, fmD st R]) (fun a => ?_) ?_
   · rw [show (putBack [0, 1] [fmO st 1, fmD st R] [fmO st 1, fmD st R]) = [fmO st 1, fmD st R] from rfl]
     walk_at "zs"
     rw [show Option.map D.bl (isx cUnknownFormula cWeaveError) = some (.bl true) by rw [isx_v (by decide) (by decide)]; rfl, excAt_e]
     walk_at "zs"
     try rw [excAt_e]
     try walk_at "zs"
     rw [show List.lookup f_number ((clsFlds cUnknownFormula).zip [D.int b]) = some (.int b) from rfl, excAt_e]
     walk_at "zz"
     rfl
   · walk_at "zz"
     first | done | rfl
end
end Zl
end
section
namespace Zl
open PySem PySem.Spec PyProof.Rows L2 TL
theorem pls_any {x : D} {p : PyData} (hx : plB x = true) (ex : x.py = some p) : ∀ {ys : List D} {ps : List PyData}, plBs ys = true → D.pys ys = some ps → ((ps.any fun z => PyData.eqv z p) = true ↔ x ∈ ys)
 | [], ps, _, e => by unfold D.pys at e; cases e; simp
 | y :: ys, ps, hy, e => by
   unfold plBs at hy
   rw [Bool.and_eq_true] at hy
   unfold D.pys at e
   obtain ⟨q, g1, e⟩ := Option.bind_eq_some_iff.mp e
   obtain ⟨qs, g2, e⟩ := Option.bind_eq_some_iff.mp e
   cases e
   rw [List.any_cons, Bool.or_eq_true, pl_eqv y x q p hy.1 hx g1 ex, pls_any hx ex hy.2 g2, List.mem_cons]
   constructor
   · rintro (h | h)
     · exact .inl h.symm
     · exact .inr h
   · rintro (h | h)
     · exact .inl h.symm
     · exact .inr h
open Classical in
theorem pyIn_pl {x : D} {ys : List D} (hx : plB x = true) (hy : plBs ys = true) (dx : dep x ≤ 64) (dy : deps ys + 1 ≤ 64) : pyIn x (.lst ys) = some (decide (x ∈ ys)) ∧ pyIn x (.tup ys) = some (decide (x ∈ ys)) := by
 obtain ⟨p, e1, k1⟩ := pl_py x hx
 obtain ⟨ps, e2, k2⟩ := pls_py ys hy
 have e3 : D.py (.lst ys) = some (.list ps) := by unfold D.py; rw [e2]; rfl
 have e4 : D.py (.tup ys) = some (.tuple ps) := by unfold D.py; rw [e2]; rfl
 have d1 : p.depth ≤ 64 := by omega
 have d2 : (PyData.list ps).depth ≤ 64 := by show PyData.depthAll ps + 1 ≤ 64; omega
 have d3 : (PyData.tuple ps).depth ≤ 64 := by show PyData.depthAll ps + 1 ≤ 64; omega
 have a := pls_any hx e1 hy e2
 have b : (ps.any fun z => PyData.eqv z p) = decide (x ∈ ys) := by rw [Bool.eq_iff_iff, a, decide_eq_true_iff]
 constructor
 · unfold pyIn
   rw [e1, e3]
   dsimp only
   rw [if_pos ⟨d1, d2⟩, b]
 · unfold pyIn
   rw [e1, e4]
   dsimp only
   rw [if_pos ⟨d1, d3⟩, b]
section
variable {h : ZH} {n : Bool} {x : D}
theorem in_dr {i : Nat} {ys : List D} {b : Bool} (hi : h[i]? = some (.dl ys)) (e : pyIn x (.lst ys) = some b) : opIn n (.d x) (.r i) h = .ok (.d (.bl (if n then !b else b))) h := by
 show (match viewD (.d x) h, viewD (.r i) h with
   | some p, some q => match pyIn p q with
     | some k => Out.ok (Z.d (.bl (if n then !k else k))) h
     | none => .bad
   | _, _ => .bad) = _
 rw [view_d, view_r, hi, viewO_dl]
 dsimp only
 rw [e]
end
section
variable {h : ZH} {n : Bool} {p : Int × Int} {L : List (Int × Int)}
end
end Zl
end
section
namespace Zl
open PySem PySem.Spec PyProof.Rows L2 TL
noncomputable section
end
end Zl
end
section
namespace Zl
open PySem PySem.Spec PyProof.Rows L2 TL
noncomputable section
theorem same_ok {a : List Int} (hl : a.length < 1000) : M_law_same [.d (.tup (a.map .int)), .d (.tup (a.map .int))] [] = .ok (.d (.bl true)) [] := by
 refine wp_get ?_
 unfold M_law_same D_law_same
 walk_at "zs"
 refine ⟨inR_nat (n := (a.map D.int).length) (by rw [List.length_map]; omega), ?_⟩
 refine rngW (fun i s h => s = [some (.d (.tup (a.map .int))), some (.d (.tup (a.map .int))), none] ∧ h = []) ⟨rfl, rfl⟩ ?_ ?_
 · rintro i s h hi ⟨es, eh⟩
   rw [List.length_map] at hi
   have e : atD (a.map D.int) (i : Int) = some (.int a[i]) := by rw [Zl.at_nat, List.getElem?_map, List.getElem?_eq_getElem hi]; rfl
   rw [es, eh]
   walk_at "zs"
   rw [e]
   walk_at "zs"
   refine callW_eq (xs := [_]) (isnum_ok _) ?_
   walk_at "zs"
   rw [e]
   walk_at "zs"
   rw [e]
   walk_at "zz"
 · rintro s h ⟨es, eh⟩
   rw [es, eh]
   walk_at "zz"
end
end Zl
end
section
namespace Zl
open PySem PySem.Spec PyProof.Rows L2 TL
noncomputable section
theorem called_r {st : Nat} {R : List Row} {f : List Nat} {as : List Int} (hs : st ≤ 1000) (hl : R.length ≤ 1000) (ha : as.length ≤ 1000) :
   M_law_called [.r 0, .d (.str f), .r 2] [fmO st 1, fmD st R, .dl (as.map .int)] = .ok (.d (toldD st R f as)) [fmO st 1, fmD st (nextR st R f as), .dl (as.map .int)] := by
 refine wp_get ?_
 unfold M_law_called D_law_called
 walk_at "zs"
 rw [show clsZ (Z.r 0) [fmO st 1, fmD st R, .dl (as.map .int)] = some cFormulas from rfl]
 refine ⟨rfl, ?_⟩
 rw [show (some cFormulas).bind mtO_callFormulas = some M_Formulas_call from rfl]
 walk_at "zs"
 refine callG (zs' := [.r 0, .d _, .r 2]) (h0 := [fmO st 1, fmD st R, .dl (as.map .int)]) [0, 1, 2] rfl rfl rfl rfl ?_
 refine Out.wp_mono (call_r hs hl ha) (fun z os hz => ?_) (fun x os hz => ?_)
 · obtain ⟨hb, rfl, rfl⟩ := hz
   unfold toldD nextR
   rw [hb]
   walk_at "zz"
   first | rfl | exact ⟨rfl, rfl⟩ | done
 · obtain ⟨b, hb, rfl, rfl⟩ := hz
   unfold toldD nextR
   rw [hb]
   rw [tryA_ex rfl]
   refine sameRt (z := .d (.tup [.str UNKN, .int b])) (h' := [fmO st 1, fmD st R, .dl (as.map .int)]) (fun a => ?_) ?_
   · rw [show (putBack [0, 1, 2] [fmO st 1, fmD st R, .dl (as.map .int)] [fmO st 1, fmD st R, .dl (as.map .int)]) = [fmO st 1, fmD st R, .dl (as.map .int)] from rfl]
     walk_at "zs"
     rw [show Option.map D.bl (isx cUnknownFormula cWeaveError) = some (.bl true) by rw [isx_v (by decide) (by decide)]; rfl, excAt_e]
     walk_at "zs"
     try rw [excAt_e]
     try walk_at "zs"
     rw [show List.lookup f_number ((clsFlds cUnknownFormula).zip [D.int b]) = some (.int b) from rfl, excAt_e]
     walk_at "zz"
     rfl
   · walk_at "zz"
     first | done | rfl
theorem prSD_inj {p q : Row} (h : prSD p = prSD q) : p = q := by
 have e : nkE (prSD p) (prSD q) = true := by
   rw [h, nkE_pr, decide_eq_true rfl]
 rw [nkE_pr] at e
 exact of_decide_eq_true e
theorem pls_int : ∀ {ns : List Int}, plBs (ns.map .int) = true ∧ deps (ns.map .int) = 0
 | [] => ⟨by unfold plBs; rfl, by unfold deps; rfl⟩
 | n :: ns => by
   rw [List.map_cons]
   refine ⟨?_, ?_⟩
   · unfold plBs; rw [(pls_int (ns := ns)).1]; unfold plB; rfl
   · unfold deps; rw [(pls_int (ns := ns)).2]; unfold dep; rfl
theorem plRw {p : Row} : plB (prSD p) = true ∧ dep (prSD p) ≤ 2 := by
 unfold prSD
 have a := pls_int (ns := p.2)
 refine ⟨?_, ?_⟩
 · unfold plB plBs plBs plBs plB
   rw [a.1]; rfl
 · unfold dep deps deps deps dep
   rw [a.2]; decide
theorem plsRw : ∀ {R : List Row}, plBs (R.map prSD) = true ∧ deps (R.map prSD) ≤ 2
 | [] => ⟨by unfold plBs; rfl, by unfold deps; exact Nat.zero_le _⟩
 | p :: R => by
   rw [List.map_cons]
   refine ⟨?_, ?_⟩
   · unfold plBs; rw [(plsRw (R := R)).1, plRw.1]; rfl
   · unfold deps
     have := (plsRw (R := R)).2
     have := (plRw (p := p)).2
     omega
theorem in_row {n : Bool} {p : Row} {R : List Row} {h : ZH} {i : Nat} (hi : h[i]? = some (.dl (R.map prSD))) : opIn n (.d (prSD p)) (.r i) h = .ok (.d (.bl (if n then !decide (p ∈ R) else decide (p ∈ R)))) h := by
 refine in_dr hi ?_
 have d1 := (plRw (p := p)).2
 have d2 := (plsRw (R := R)).2
 rw [(pyIn_pl plRw.1 plsRw.1 (by omega) (by omega)).1]
 have e : (prSD p ∈ R.map prSD) ↔ p ∈ R := by
   rw [List.mem_map]
   exact ⟨fun ⟨q, hq, e⟩ => prSD_inj e ▸ hq, fun h => ⟨p, h, rfl⟩⟩
 simp only [e]
theorem ldue_ok {st : Nat} {R : List Row} {f : List Nat} {as : List Int} (hs : st ≤ 1000) (hl : R.length ≤ 1000) (ha : as.length ≤ 1000) :
   M_law_due [.d (.int (st : Int)), .r 0, .d (.str f), .r 1] [.dl (R.map prSD), .dl (as.map .int)] = .ok (.d (toldD st R f as)) [.dl (R.map prSD), .dl (as.map .int)] := by
 refine wp_get ?_
 unfold M_law_due D_law_due
 walk_at "zs"
 refine lstW (fun d s h => s = [some (.d (.int (st : Int))), some (.r 0), some (.d (.str f)), some (.r 1), none, none] ∧ h = [.dl (R.map prSD), .dl (as.map .int)] ∧ ∀ a ∈ as.take d, 0 ≤ a ∧ a < (st : Int) + (R.length : Int)) ⟨rfl, rfl, fun v hv => by cases hv⟩ ?_ ?_
 · rintro d x s h hx ⟨es, eh, pre⟩
   rw [List.getElem?_map] at hx
   cases e : as[d]? with
   | none => rw [e] at hx; cases hx
   | some a =>
     rw [e] at hx
     cases hx
     rw [es, eh]
     walk_at "zs"
     have bad : ¬ (0 ≤ a ∧ a < (st : Int) + (R.length : Int)) → badA (st + R.length) as = some a := fun hb =>
       find_atI (f := fun a => !(decide (0 ≤ a) && decide (a < ((st + R.length : Nat) : Int)))) (fun y hy => by
         obtain ⟨y1, y2⟩ := pre y hy
         rw [decide_eq_true y1, decide_eq_true (show y < ((st + R.length : Nat) : Int) by omega)]; rfl) e (by
         by_cases h0 : 0 ≤ a
         · rw [decide_eq_true h0, decide_eq_false (fun z => hb ⟨h0, by omega⟩)]; rfl
         · rw [decide_eq_false h0]; rfl)
     by_cases h0 : a < 0
     · rw [if_pos h0]
       walk_at "zz"
       unfold toldD
       rw [bad fun z => by omega]
       rfl
     · rw [if_neg h0]
       walk_at "zs"
       rw [List.length_map]
       by_cases h1 : (st : Int) + (R.length : Int) ≤ a
       · rw [if_pos h1]
         walk_at "zz"
         unfold toldD
         rw [bad fun z => by omega]
         rfl
       · rw [if_neg h1]
         walk_at "zz"
         exact ⟨rfl, pre_snocF (P := fun a => 0 ≤ a ∧ a < (st : Int) + (R.length : Int)) pre e ⟨by omega, by omega⟩⟩
 · rintro s h ⟨es, eh, pre⟩
   rw [List.length_map, List.take_length] at pre
   have none_ : badA (st + R.length) as = none := List.find?_eq_none.mpr fun y hy => by
     obtain ⟨y1, y2⟩ := pre y hy
     rw [decide_eq_true y1, decide_eq_true (show y < ((st + R.length : Nat) : Int) by omega)]
     exact Bool.false_ne_true
   rw [es, eh]
   walk_at "zs"
   rw [show D.tup [.str f, .tup (as.map .int)] = prSD (f, as) from rfl, in_row (R := R) rfl]
   unfold toldD
   rw [none_]
   walk_at "zs"
   by_cases hm : (f, as) ∈ R
   · rw [if_pos hm]
     walk_at "zs"
     rw [lIxS_r (ps := R) rfl, if_pos hm]
     walk_at "zz"
     rfl
   · rw [if_neg hm]
     walk_at "zz"
     rw [List.length_map, List.idxOf_eq_length hm]
     rfl
theorem lrows_same {R : List Row} (hl : R.length ≤ 1000) (ha : ∀ p ∈ R, p.2.length ≤ 900) :
   M_law_same_rows [.r 0, .r 1] [.dl (R.map prSD), .dl (R.map prSD)] = .ok (.d (.bl true)) [.dl (R.map prSD), .dl (R.map prSD)] := by
 refine wp_get ?_
 unfold M_law_same_rows D_law_same_rows
 walk_at "zs"
 rw [show tyZ (Z.r 0) [ZO.dl (R.map prSD), ZO.dl (R.map prSD)] = some .lst from rfl]
 walk_at "zs"
 rw [List.length_map]
 refine ⟨inR_nat (n := R.length) (by omega), ?_⟩
 refine rngW (fun i s h => s = [some (.r 0), some (.r 1), none] ∧ h = [.dl (R.map prSD), .dl (R.map prSD)]) ⟨rfl, rfl⟩ ?_ ?_
 · rintro i s h hi ⟨es, eh⟩
   rw [es, eh]
   have g : atD (R.map prSD) (i : Int) = some (.tup [.str R[i].1, .tup (R[i].2.map .int)]) := by rw [Zl.at_nat, List.getElem?_map, List.getElem?_eq_getElem hi]; rfl
   walk_at "zs"
   repeat (rw [g]; walk_at "zs")
   refine callW_eq (xs := [_, _]) (same_ok (a := R[i].2) (by have := ha _ (List.getElem_mem hi); omega)) ?_
   walk_at "zz"
   done
 · rintro s h ⟨es, eh⟩
   rw [es, eh]
   walk_at "zz"
   done
theorem finit_ok {st : Nat} : M_Formulas_init [.r 0, .d (.int (st : Int))] [.ins cFormulas []] = .ok (.d .non) [fmO st 1, fmD st []] := by
 refine wp_get ?_
 unfold M_Formulas_init D_Formulas_init
 walk_at "zs"
 rw [wp_dit0]
 walk_at "zs"
 rw [show gcS 1 (OutS.nx [none, none] [ZO.ins cFormulas [(f_starts, Z.d (D.int (st : Int))), (f_numbers, Z.r 1)], ZO.dit [] []]) = OutS.nx [none, none] [fmO st 1, fmD st []] from rfl]
 walk_at "zs"
theorem frows_ok {st : Nat} {R : List Row} (hl : R.length ≤ 1000) : M_Formulas_rows [.r 0] [fmO st 1, fmD st R] = .ok (.r 2) [fmO st 1, fmD st R, .dl (R.map prSD)] := by
 refine wp_get ?_
 unfold M_Formulas_rows D_Formulas_rows
 walk_at "zs"
 rw [show fldO f_numbers (some (fmO st 1)) = some (.r 1) from rfl]
 walk_at "zs"
 rw [wp_listD, ditZ_r]
 walk_at "zs"
 rw [show ditO' (some (fmD st R)) = some (R.map prSD, numsF st R.length) from rfl]
 walk_at "zs"
 rw [List.length_map]
 refine ⟨by omega, ?_⟩
 try walk_at "zs"
 rw [show gcS 2 (OutS.rt (Z.r 2) [fmO st 1, fmD st R, ZO.dl (R.map prSD)]) = OutS.rt (Z.r 2) [fmO st 1, fmD st R, ZO.dl (R.map prSD)] from rfl]
 try walk_at "zs"
 first | done | exact ⟨rfl, rfl⟩
theorem peq_told {st : Nat} {R : List Row} {f : List Nat} {as : List Int} : peq (toldD st R f as) (toldD st R f as) = some true := by
 unfold toldD
 split
 · rw [peq_pl rfl rfl (by show max 0 (max 0 0) + 1 ≤ 64; decide) (by show max 0 (max 0 0) + 1 ≤ 64; decide)]
   simp
 · rw [peq_pl rfl rfl (by show max 0 (max 0 0) + 1 ≤ 64; decide) (by show max 0 (max 0 0) + 1 ≤ 64; decide)]
   simp
theorem eq_rr {n b : Bool} {i j : Nat} {xs ys : List D} {h : ZH} (hi : h[i]? = some (.dl xs)) (hj : h[j]? = some (.dl ys)) (e : peq (.lst xs) (.lst ys) = some b) : opEq n (.r i) (.r j) h = .ok (.d (.bl (if n then !b else b))) h := by
 show (match viewD (.r i) h, viewD (.r j) h with
   | some p, some q => eqO n (peq p q) h
   | _, _ => .bad) = _
 rw [view_r, view_r, hi, hj, viewO_dl, viewO_dl]
 dsimp only
 rw [e]
 rfl
theorem peq_ints {a : List Int} : peq (.lst (a.map .int)) (.lst (a.map .int)) = some true := by
 have p := pls_int (ns := a)
 rw [peq_pl (by unfold plB; exact p.1) (by unfold plB; exact p.1) (by unfold dep; rw [p.2]; decide) (by unfold dep; rw [p.2]; decide)]
 simp
end
end Zl
end
section
namespace Zl
open PySem PySem.Spec PyProof.Rows L2 TL
noncomputable section
theorem seqF {o : OutS} {K : KS} (P : ZS → ZH → Prop) (w : o.wp ⟨P, fun _ _ => False, fun _ _ => False, fun _ _ => False, fun _ _ _ => False⟩) (k : ∀ s h, P s h → K.nx s h) : o.wp K :=
 OutS.wp_mono w k (fun _ _ z => z.elim) (fun _ _ z => z.elim) (fun _ _ z => z.elim) (fun _ _ _ z => z.elim)
abbrev HF (ds : List D) (a : Nat) (A : List Row) (b : Nat) (B : List Row) : ZH := [.dl ds, fmO a 2, fmD a A, fmO b 4, fmD b B, .zl [.r 1, .r 3], .dl (A.map prSD), .dl (B.map prSD), .zl [.r 6, .r 7]]
abbrev SF (ns : List Int) (cs : List (List Nat)) (a b : Nat) : ZS := [some (.d (.scr (ns.map .int))), some (.r 0), some (.d (.lst (cs.map .str))), some (.d (.lst [.int (a : Int), .int (b : Int)])), some (.r 5), some (.r 8), none, none, none, none, none, none, none, none, none, none, none]
def SmallR (R : List Row) : Prop := ∀ p ∈ R, p.2.length ≤ 3
theorem small_add {R : List Row} {p : Row} (h : SmallR R) (hp : p.2.length ≤ 3) : SmallR (addR R p) := by
 unfold addR
 split
 · exact h
 · intro q hq
   rcases List.mem_append.mp hq with hq | hq
   · exact h q hq
   · rw [List.mem_singleton.mp hq]; exact hp
theorem addR_len {R : List Row} {p : Row} : (addR R p).length ≤ R.length + 1 := by
 unfold addR
 split
 · omega
 · simp
theorem addR_of_mem {R : List Row} {p : Row} (h : p ∈ R) : addR R p = R := by unfold addR; rw [if_pos h]
theorem again {st : Nat} {R : List Row} {f : List Nat} {as : List Int} (h : badA (st + R.length) as = none) : toldD st (addR R (f, as)) f as = .tup [.str NUMB, .int ((st + R.idxOf (f, as) : Nat) : Int)] ∧ nextR st (addR R (f, as)) f as = addR R (f, as) := by
 have b : badA (st + (addR R (f, as)).length) as = none := List.find?_eq_none.mpr fun y hy => by
   have := List.find?_eq_none.mp h y hy
   intro z
   apply this
   rw [Bool.not_eq_true', Bool.and_eq_false_iff, decide_eq_false_iff_not, decide_eq_false_iff_not] at *
   rcases z with z | z
   · exact .inl z
   · refine .inr fun g => z ?_
     have : R.length ≤ (addR R (f, as)).length := by
       unfold addR
       split
       · exact Nat.le_refl _
       · simp
     omega
 have hm : (f, as) ∈ addR R (f, as) := by
   unfold addR
   split
   · assumption
   · simp
 have hi : (addR R (f, as)).idxOf (f, as) = R.idxOf (f, as) := by
   unfold addR
   split
   · rfl
   · rename_i hn
     rw [List.idxOf_append, if_neg hn, List.idxOf_eq_length hn]
     simp
 unfold toldD nextR
 rw [b]
 refine ⟨by dsimp only; rw [hi], ?_⟩
 exact addR_of_mem hm
theorem peq_toldN {i : Int} : peq (.tup [.str NUMB, .int i]) (.tup [.str NUMB, .int i]) = some true := by
 rw [peq_pl rfl rfl (by show max 0 (max 0 0) + 1 ≤ 64; decide) (by show max 0 (max 0 0) + 1 ≤ 64; decide)]
 simp
theorem law_true (ns : List Int) (hn : ns.length ≤ 63) : ∃ zh, M_law [.d (.scr (ns.map D.int))] [] = .ok (.d (.bl true)) zh := by
 have w : (M_law [.d (.scr (ns.map D.int))] []).wp (fun z h => z = .d (.bl true)) (fun _ _ => False) := by
   unfold M_law D_law
   walk_at "zs"
   refine pool_w hn fun ds hd => ?_
   walk_at "zs"
   refine draw_w rfl hd (by decide) fun u d2 i2 u0 u1 => ?_
   walk_at "zs"
   obtain ⟨c, hc, ec⟩ : ∃ c : Nat, (2 ≤ c ∧ c ≤ 4) ∧ atD [.int 2, .int 3, .int 4] u = some (.int (c : Int)) := by
     have : u = 0 ∨ u = 1 ∨ u = 2 := by omega
     rcases this with rfl | rfl | rfl
     · exact ⟨2, by decide, rfl⟩
     · exact ⟨3, by decide, rfl⟩
     · exact ⟨4, by decide, rfl⟩
   rw [ec]
   walk_at "zs"
   refine names_w rfl i2 (by omega) fun cs d3 lc hcs i3 => ?_
   walk_at "zs"
   refine draw_w rfl i3 (by decide) fun u d4 i4 u0 u1 => ?_
   walk_at "zs"
   obtain ⟨a, ha, ea⟩ : ∃ c : Nat, (1 ≤ c ∧ c ≤ 3) ∧ atD [.int 2, .int 3, .int 1] u = some (.int (c : Int)) := by
     have : u = 0 ∨ u = 1 ∨ u = 2 := by omega
     rcases this with rfl | rfl | rfl
     · exact ⟨2, by decide, rfl⟩
     · exact ⟨3, by decide, rfl⟩
     · exact ⟨1, by decide, rfl⟩
   rw [ea]
   walk_at "zs"
   refine draw_w rfl i4 (by decide) fun u d5 i5 u0 u1 => ?_
   walk_at "zs"
   obtain ⟨b, hb, eb⟩ : ∃ c : Nat, (1 ≤ c ∧ c ≤ 3) ∧ atD [.int 1, .int 2, .int 3] u = some (.int (c : Int)) := by
     have : u = 0 ∨ u = 1 ∨ u = 2 := by omega
     rcases this with rfl | rfl | rfl
     · exact ⟨1, by decide, rfl⟩
     · exact ⟨2, by decide, rfl⟩
     · exact ⟨3, by decide, rfl⟩
   rw [eb]
   walk_at "zs"
   refine callG (zs' := [.r 0, .d _]) (h0 := [.ins cFormulas []]) [1] rfl rfl rfl rfl ?_
   rw [finit_ok, wp_ok]
   rw [show putBack [1] [.dl d5, .ins cFormulas []] [fmO a 1, fmD a []] = [.dl d5, fmO a 2, fmD a []] from rfl, show ∀ n, unZ [1] n (.d .non) = .d .non from fun _ => rfl]
   refine ⟨rfl, ?_⟩
   rw [show ∀ h, madeZ true cFormulas 1 h = .ok (.r 1) h from fun _ => rfl, wp_ok]
   walk_at "zs"
   refine callG (zs' := [.r 0, .d _]) (h0 := [.ins cFormulas []]) [3] rfl rfl rfl rfl ?_
   rw [finit_ok, wp_ok]
   rw [show putBack [3] [.dl d5, fmO a 2, fmD a [], .ins cFormulas []] [fmO b 1, fmD b []] = [.dl d5, fmO a 2, fmD a [], fmO b 4, fmD b []] from rfl, show ∀ n, unZ [3] n (.d .non) = .d .non from fun _ => rfl]
   refine ⟨rfl, ?_⟩
   rw [show ∀ h, madeZ true cFormulas 3 h = .ok (.r 3) h from fun _ => rfl, wp_ok]
   walk_at "zs"
   refine ⟨inR_of (by decide) (by decide), ?_⟩
   refine rngW (fun i s h => ∃ (e : List D) (A B : List Row), Ints e ∧ SmallR A ∧ SmallR B ∧ A.length ≤ i ∧ B.length ≤ i ∧ s = SF ns cs a b ∧ h = HF e a A b B) ⟨d5, [], [], i5, (fun p h => by cases h), (fun p h => by cases h), Nat.le_refl _, Nat.le_refl _, rfl, rfl⟩ ?_ ?_
   · rintro i s h hi ⟨e, A, B, ie, hA, hB, lA, lB, es, eh⟩
     rw [es, eh]
     unfold HF SF
     walk_at "zs"
     have m0 := Int.emod_nonneg (i : Int) (show (8 : Int) ≠ 0 by decide)
     by_cases h7 : (i : Int) % 8 = 7
     · rw [if_pos h7]
       rw [List.length_map]
       refine draw_w rfl ie (by omega) fun q d6 i6 q0 q1 => ?_
       obtain ⟨f, ef⟩ : ∃ f, atD (cs.map D.str) q = some (.str f) := by
         obtain ⟨k, rfl⟩ : ∃ k : Nat, q = k := ⟨q.toNat, by omega⟩
         exact ⟨cs[k]'(by omega), by rw [Zl.at_nat, List.getElem?_map, List.getElem?_eq_getElem (by omega)]; rfl⟩
       walk_at "zs"
       rw [ef]
       walk_at "zs"
       rw [show atZ [Z.r 6, Z.r 7] 1 = some (.r 7) from rfl]
       walk_at "zs"
       rw [List.length_map]
       refine draw_w rfl i6 (by decide) fun q d7 i7 q0 q1 => ?_
       obtain ⟨m, hm, em⟩ : ∃ m : Nat, m ≤ 3 ∧ atD [.int 1, .int 2, .int 0, .int 3] q = some (.int (m : Int)) := by
         have : q = 0 ∨ q = 1 ∨ q = 2 ∨ q = 3 := by omega
         rcases this with rfl | rfl | rfl | rfl
         · exact ⟨1, by decide, rfl⟩
         · exact ⟨2, by decide, rfl⟩
         · exact ⟨0, by decide, rfl⟩
         · exact ⟨3, by decide, rfl⟩
       walk_at "zs"
       rw [em]
       walk_at "zs"
       refine ⟨inR_nat (n := m) (by omega), ?_⟩
       refine rngW (fun j s h => ∃ (e : List D) (as : List Int), Ints e ∧ as.length = j ∧ s = [some (.d (.scr (ns.map .int))), some (.r 0), some (.d (.lst (cs.map .str))), some (.d (.lst [.int (a : Int), .int (b : Int)])), some (.r 5), some (.r 8), some (.d (.int (i : Int))), some (.d (.int 1)), some (.d (.str f)), some (.d (.int ((b : Int) + (B.length : Int)))), some (.r 9), none, none, none, none, none, none] ∧ h = [.dl e, fmO a 2, fmD a A, fmO b 4, fmD b B, .zl [.r 1, .r 3], .dl (A.map prSD), .dl (B.map prSD), .zl [.r 6, .r 7], .dl (as.map .int)]) ⟨d7, [], i7, rfl, rfl, rfl⟩ ?_ ?_
       · rintro j s h hj ⟨e, as, ie, la, es, eh⟩
         rw [es, eh]
         walk_at "zs"
         refine draw_w rfl ie (by decide) fun q d8 i8 q0 q1 => ?_
         walk_at "zs"
         refine ⟨by omega, ?_⟩
         refine draw_w rfl i8 (by decide) fun r d9 i9 r0 r1 => ?_
         walk_at "zs"
         refine seqF (fun s h => ∃ (e : List D) (x : Int), Ints e ∧ s = [some (.d (.scr (ns.map .int))), some (.r 0), some (.d (.lst (cs.map .str))), some (.d (.lst [.int (a : Int), .int (b : Int)])), some (.r 5), some (.r 8), some (.d (.int (i : Int))), some (.d (.int 1)), some (.d (.str f)), some (.d (.int ((b : Int) + (B.length : Int)))), some (.r 9), some (.d (.int (j : Int))), some (.d (.int x)), none, none, none, none] ∧ h = [.dl e, fmO a 2, fmD a A, fmO b 4, fmD b B, .zl [.r 1, .r 3], .dl (A.map prSD), .dl (B.map prSD), .zl [.r 6, .r 7], .dl (as.map .int)]) ?_ ?_
         · by_cases hr : r = 9
           · rw [if_pos hr]
             walk_at "zs"
             refine draw_w rfl i9 (by decide) fun t d10 i10 t0 t1 => ?_
             have pick : ∀ (y0 y1 y2 y3 : Int), ∃ x, atD [.int y0, .int y1, .int y2, .int y3] t = some (.int x) := fun y0 y1 y2 y3 => by
               have : t = 0 ∨ t = 1 ∨ t = 2 ∨ t = 3 := by omega
               rcases this with rfl | rfl | rfl | rfl
               · exact ⟨_, rfl⟩
               · exact ⟨_, rfl⟩
               · exact ⟨_, rfl⟩
               · exact ⟨_, rfl⟩
             walk_at "zs"
             obtain ⟨x, ex⟩ := pick ((b : Int) + (B.length : Int)) (-1) ((b : Int) + (B.length : Int) + 7) (0 - ((b : Int) + (B.length : Int)))
             first | rw [ex] | (rw [Int.zero_sub] at ex; rw [ex])
             walk_at "zs"
             exact ⟨d10, x, i10, rfl, rfl⟩
           · rw [if_neg hr]
             walk_at "zs"
             exact ⟨d9, _, i9, rfl, rfl⟩
         · rintro s h ⟨e, x, ie, es, eh⟩
           rw [es, eh]
           walk_at "zs"
           rw [List.length_map]
           refine ⟨by omega, ?_⟩
           try walk_at "zz"
           exact ⟨e, as ++ [x], ie, by simp [la], by rw [List.map_append]; rfl⟩
       rintro s h ⟨e, as, ie, la, es, eh⟩
       rw [es, eh]
       walk_at "zs"
       rw [show atZ [Z.r 6, Z.r 7] 1 = some (.r 7) from rfl]
       walk_at "zs"
       refine callG (zs' := [.d _, .r 0, .d _, .r 1]) (h0 := [.dl (B.map prSD), .dl (as.map .int)]) [7, 9] rfl rfl rfl rfl ?_
       refine wp_eq (ldue_ok (by omega) (by omega) (by omega)) ?_
       rw [show ∀ n d, unZ [7, 9] n (.d d) = .d d from fun _ _ => rfl, show putBack [7, 9] [.dl e, fmO a 2, fmD a A, fmO b 4, fmD b B, .zl [.r 1, .r 3], .dl (A.map prSD), .dl (B.map prSD), .zl [.r 6, .r 7], .dl (as.map .int)] [.dl (B.map prSD), .dl (as.map .int)] = [.dl e, fmO a 2, fmD a A, fmO b 4, fmD b B, .zl [.r 1, .r 3], .dl (A.map prSD), .dl (B.map prSD), .zl [.r 6, .r 7], .dl (as.map .int)] from rfl]
       walk_at "zs"
       rw [show atZ [Z.r 1, Z.r 3] 1 = some (.r 3) from rfl]
       walk_at "zs"
       refine callG (zs' := [.r 0, .d _, .r 2]) (h0 := [fmO b 1, fmD b B, .dl (as.map .int)]) [3, 4, 10] rfl rfl rfl rfl ?_
       refine wp_eq (called_r (by omega) (by omega) (by omega)) ?_
       rw [show ∀ n d, unZ [3, 4, 10] n (.d d) = .d d from fun _ _ => rfl, show putBack [3, 4, 10] [.dl e, fmO a 2, fmD a A, fmO b 4, fmD b B, .zl [.r 1, .r 3], .dl (A.map prSD), .dl (B.map prSD), .zl [.r 6, .r 7], .dl (as.map .int), .dl (as.map .int)] [fmO b 1, fmD b (nextR b B f as), .dl (as.map .int)] = [.dl e, fmO a 2, fmD a A, fmO b 4, fmD b (nextR b B f as), .zl [.r 1, .r 3], .dl (A.map prSD), .dl (B.map prSD), .zl [.r 6, .r 7], .dl (as.map .int), .dl (as.map .int)] from rfl]
       walk_at "zs"
       rw [peq_told]
       walk_at "zs"
       have lasm : as.length ≤ 3 := by omega
       have rest : ∀ (s : ZS) (A2 : List Row), True := fun _ _ => trivial
       cases hb : badA (b + B.length) as with
       | some bad =>
         rw [show toldD b B f as = .tup [.str UNKN, .int bad] by unfold toldD; rw [hb], show nextR b B f as = B by unfold nextR; rw [hb]]
         walk_at "zs"
         refine callW_eq (xs := [_]) (isnum_ok _) ?_
         walk_at "zs"
         rw [eq_rr (b := true) rfl rfl peq_ints]
         walk_at "zs"
         rw [List.length_map]
         refine ⟨by omega, ?_⟩
         try walk_at "zs"
         rw [if_neg (by decide)]
         try walk_at "zs"
         rw [show atZ [Z.r 1, Z.r 3] 1 = some (.r 3) from rfl]
         walk_at "zs"
         rw [show clsZ (Z.r 3) [.dl e, fmO a 2, fmD a A, fmO b 4, fmD b B, .zl [.r 1, .r 3], .dl (A.map prSD), .dl (B.map prSD), .zl [.r 6, .r 7], .dl (as.map .int), .dl (as.map .int ++ [.int 0])] = some cFormulas from rfl, show (some cFormulas).bind mtFormulas_rows = some M_Formulas_rows from rfl]
         walk_at "zs"
         refine callG (zs' := [.r 0]) (h0 := [fmO b 1, fmD b B]) [3, 4] rfl rfl rfl rfl ?_
         refine wp_eq (frows_ok (by omega)) ?_
         rw [show unZ [3, 4] [.dl e, fmO a 2, fmD a A, fmO b 4, fmD b B, .zl [.r 1, .r 3], .dl (A.map prSD), .dl (B.map prSD), .zl [.r 6, .r 7], .dl (as.map .int), .dl (as.map .int ++ [.int 0])].length (.r 2) = .r 11 from rfl, show putBack [3, 4] [.dl e, fmO a 2, fmD a A, fmO b 4, fmD b B, .zl [.r 1, .r 3], .dl (A.map prSD), .dl (B.map prSD), .zl [.r 6, .r 7], .dl (as.map .int), .dl (as.map .int ++ [.int 0])] [fmO b 1, fmD b B, .dl (B.map prSD)] = [.dl e, fmO a 2, fmD a A, fmO b 4, fmD b B, .zl [.r 1, .r 3], .dl (A.map prSD), .dl (B.map prSD), .zl [.r 6, .r 7], .dl (as.map .int), .dl (as.map .int ++ [.int 0]), .dl (B.map prSD)] from rfl]
         walk_at "zs"
         rw [show atZ [Z.r 6, Z.r 7] 1 = some (.r 7) from rfl]
         walk_at "zs"
         refine callG (zs' := [.r 0, .r 1]) (h0 := [.dl (B.map prSD), .dl (B.map prSD)]) [11, 7] rfl rfl rfl rfl ?_
         refine wp_eq (lrows_same (by omega) (fun p hp => by have := hB p hp; omega)) ?_
         rw [show ∀ n d, unZ [11, 7] n (.d d) = .d d from fun _ _ => rfl, show putBack [11, 7] [.dl e, fmO a 2, fmD a A, fmO b 4, fmD b B, .zl [.r 1, .r 3], .dl (A.map prSD), .dl (B.map prSD), .zl [.r 6, .r 7], .dl (as.map .int), .dl (as.map .int ++ [.int 0]), .dl (B.map prSD)] [.dl (B.map prSD), .dl (B.map prSD)] = [.dl e, fmO a 2, fmD a A, fmO b 4, fmD b B, .zl [.r 1, .r 3], .dl (A.map prSD), .dl (B.map prSD), .zl [.r 6, .r 7], .dl (as.map .int), .dl (as.map .int ++ [.int 0]), .dl (B.map prSD)] from rfl]
         walk_at "zs"
         rw [List.length_map]
         refine ⟨by omega, ?_⟩
         try walk_at "zs"
         rw [show atZ [Z.r 1, Z.r 3] 0 = some (.r 1) from rfl]
         walk_at "zs"
         rw [show clsZ (Z.r 1) [.dl e, fmO a 2, fmD a A, fmO b 4, fmD b B, .zl [.r 1, .r 3], .dl (A.map prSD), .dl (B.map prSD), .zl [.r 6, .r 7], .dl (as.map .int), .dl (as.map .int ++ [.int 0]), .dl (B.map prSD ++ [.tup [.str [97], .tup []]])] = some cFormulas from rfl, show (some cFormulas).bind mtFormulas_rows = some M_Formulas_rows from rfl]
         walk_at "zs"
         refine callG (zs' := [.r 0]) (h0 := [fmO a 1, fmD a A]) [1, 2] rfl rfl rfl rfl ?_
         refine wp_eq (frows_ok (by omega)) ?_
         rw [show unZ [1, 2] [.dl e, fmO a 2, fmD a A, fmO b 4, fmD b B, .zl [.r 1, .r 3], .dl (A.map prSD), .dl (B.map prSD), .zl [.r 6, .r 7], .dl (as.map .int), .dl (as.map .int ++ [.int 0]), .dl (B.map prSD ++ [.tup [.str [97], .tup []]])].length (.r 2) = .r 12 from rfl, show putBack [1, 2] [.dl e, fmO a 2, fmD a A, fmO b 4, fmD b B, .zl [.r 1, .r 3], .dl (A.map prSD), .dl (B.map prSD), .zl [.r 6, .r 7], .dl (as.map .int), .dl (as.map .int ++ [.int 0]), .dl (B.map prSD ++ [.tup [.str [97], .tup []]])] [fmO a 1, fmD a A, .dl (A.map prSD)] = [.dl e, fmO a 2, fmD a A, fmO b 4, fmD b B, .zl [.r 1, .r 3], .dl (A.map prSD), .dl (B.map prSD), .zl [.r 6, .r 7], .dl (as.map .int), .dl (as.map .int ++ [.int 0]), .dl (B.map prSD ++ [.tup [.str [97], .tup []]]), .dl (A.map prSD)] from rfl]
         walk_at "zs"
         rw [show atZ [Z.r 6, Z.r 7] 0 = some (.r 6) from rfl]
         walk_at "zs"
         refine callG (zs' := [.r 0, .r 1]) (h0 := [.dl (A.map prSD), .dl (A.map prSD)]) [12, 6] rfl rfl rfl rfl ?_
         refine wp_eq (lrows_same (by omega) (fun p hp => by have := hA p hp; omega)) ?_
         rw [show ∀ n d, unZ [12, 6] n (.d d) = .d d from fun _ _ => rfl, show putBack [12, 6] [.dl e, fmO a 2, fmD a A, fmO b 4, fmD b B, .zl [.r 1, .r 3], .dl (A.map prSD), .dl (B.map prSD), .zl [.r 6, .r 7], .dl (as.map .int), .dl (as.map .int ++ [.int 0]), .dl (B.map prSD ++ [.tup [.str [97], .tup []]]), .dl (A.map prSD)] [.dl (A.map prSD), .dl (A.map prSD)] = [.dl e, fmO a 2, fmD a A, fmO b 4, fmD b B, .zl [.r 1, .r 3], .dl (A.map prSD), .dl (B.map prSD), .zl [.r 6, .r 7], .dl (as.map .int), .dl (as.map .int ++ [.int 0]), .dl (B.map prSD ++ [.tup [.str [97], .tup []]]), .dl (A.map prSD)] from rfl]
         walk_at "zz"
         exact ⟨e, A, B, ie, hA, hB, by omega, by omega, rfl⟩
       | none =>
         rw [show toldD b B f as = .tup [.str NUMB, .int ((b + B.idxOf (f, as) : Nat) : Int)] by unfold toldD; rw [hb], show nextR b B f as = addR B (f, as) by unfold nextR; rw [hb]]
         walk_at "zs"
         refine callW_eq (xs := [_]) (isnum_ok _) ?_
         walk_at "zs"
         rw [eq_rr (b := true) rfl rfl peq_ints]
         walk_at "zs"
         rw [List.length_map]
         refine ⟨by omega, ?_⟩
         try walk_at "zs"
         rw [if_pos (by decide)]
         walk_at "zs"
         refine seqF (fun s h => s = [some (.d (.scr (ns.map .int))), some (.r 0), some (.d (.lst (cs.map .str))), some (.d (.lst [.int (a : Int), .int (b : Int)])), some (.r 5), some (.r 8), some (.d (.int (i : Int))), some (.d (.int 1)), some (.d (.str f)), some (.d (.int ((b : Int) + (B.length : Int)))), some (.r 9), none, none, some (.d (.tup [.str NUMB, .int ((b + B.idxOf (f, as) : Nat) : Int)])), some (.r 10), some (.d (.tup [.str NUMB, .int ((b + B.idxOf (f, as) : Nat) : Int)])), none] ∧ h = [.dl e, fmO a 2, fmD a A, fmO b 4, fmD b (addR B (f, as)), .zl [.r 1, .r 3], .dl (A.map prSD), .dl ((addR B (f, as)).map prSD), .zl [.r 6, .r 7], .dl (as.map .int), .dl (as.map .int ++ [.int 0])]) ?_ ?_
         · by_cases hin : (f, as) ∈ B
           · have := List.idxOf_lt_length_of_mem hin
             rw [if_neg (by omega)]
             walk_at "zs"
             first | done | (rw [show addR B (f, as) = B by unfold addR; rw [if_pos hin]])
             first | done | exact ⟨rfl, rfl⟩ | rfl
           · rw [if_pos (by rw [List.idxOf_eq_length hin]; omega)]
             walk_at "zs"
             rw [show atZ [Z.r 6, Z.r 7] 1 = some (.r 7) from rfl]
             walk_at "zs"
             rw [List.length_map]
             refine ⟨by omega, ?_⟩
             rw [show addR B (f, as) = B ++ [(f, as)] by unfold addR; rw [if_neg hin], List.map_append]
             first | done | exact ⟨rfl, rfl⟩ | rfl
         rintro s h ⟨es, eh⟩
         rw [es, eh]
         have hX := small_add (p := (f, as)) hB lasm
         have lX := addR_len (R := B) (p := (f, as))
         obtain ⟨ag1, ag2⟩ := again (f := f) hb
         walk_at "zs"
         rw [show atZ [Z.r 1, Z.r 3] 1 = some (.r 3) from rfl]
         walk_at "zs"
         refine callG (zs' := [.r 0, .d _, .d _]) (h0 := [fmO b 1, fmD b (addR B (f, as))]) [3, 4] rfl rfl rfl rfl ?_
         refine wp_eq (called_t (by omega) (by omega) (by omega)) ?_
         rw [ag1, ag2]
         rw [show ∀ n d, unZ [3, 4] n (.d d) = .d d from fun _ _ => rfl, show putBack [3, 4] [.dl e, fmO a 2, fmD a A, fmO b 4, fmD b (addR B (f, as)), .zl [.r 1, .r 3], .dl (A.map prSD), .dl ((addR B (f, as)).map prSD), .zl [.r 6, .r 7], .dl (as.map .int), .dl (as.map .int ++ [.int 0])] [fmO b 1, fmD b (addR B (f, as))] = [.dl e, fmO a 2, fmD a A, fmO b 4, fmD b (addR B (f, as)), .zl [.r 1, .r 3], .dl (A.map prSD), .dl ((addR B (f, as)).map prSD), .zl [.r 6, .r 7], .dl (as.map .int), .dl (as.map .int ++ [.int 0])] from rfl]
         walk_at "zs"
         rw [peq_toldN]
         walk_at "zs"
         generalize addR B (f, as) = XA at *
         try walk_at "zs"
         rw [show atZ [Z.r 1, Z.r 3] 1 = some (.r 3) from rfl]
         walk_at "zs"
         rw [show clsZ (Z.r 3) [.dl e, fmO a 2, fmD a A, fmO b 4, fmD b XA, .zl [.r 1, .r 3], .dl (A.map prSD), .dl (XA.map prSD), .zl [.r 6, .r 7], .dl (as.map .int), .dl (as.map .int ++ [.int 0])] = some cFormulas from rfl, show (some cFormulas).bind mtFormulas_rows = some M_Formulas_rows from rfl]
         walk_at "zs"
         refine callG (zs' := [.r 0]) (h0 := [fmO b 1, fmD b XA]) [3, 4] rfl rfl rfl rfl ?_
         refine wp_eq (frows_ok (by omega)) ?_
         rw [show unZ [3, 4] [.dl e, fmO a 2, fmD a A, fmO b 4, fmD b XA, .zl [.r 1, .r 3], .dl (A.map prSD), .dl (XA.map prSD), .zl [.r 6, .r 7], .dl (as.map .int), .dl (as.map .int ++ [.int 0])].length (.r 2) = .r 11 from rfl, show putBack [3, 4] [.dl e, fmO a 2, fmD a A, fmO b 4, fmD b XA, .zl [.r 1, .r 3], .dl (A.map prSD), .dl (XA.map prSD), .zl [.r 6, .r 7], .dl (as.map .int), .dl (as.map .int ++ [.int 0])] [fmO b 1, fmD b XA, .dl (XA.map prSD)] = [.dl e, fmO a 2, fmD a A, fmO b 4, fmD b XA, .zl [.r 1, .r 3], .dl (A.map prSD), .dl (XA.map prSD), .zl [.r 6, .r 7], .dl (as.map .int), .dl (as.map .int ++ [.int 0]), .dl (XA.map prSD)] from rfl]
         walk_at "zs"
         rw [show atZ [Z.r 6, Z.r 7] 1 = some (.r 7) from rfl]
         walk_at "zs"
         refine callG (zs' := [.r 0, .r 1]) (h0 := [.dl (XA.map prSD), .dl (XA.map prSD)]) [11, 7] rfl rfl rfl rfl ?_
         refine wp_eq (lrows_same (by omega) (fun p hp => by have := hX p hp; omega)) ?_
         rw [show ∀ n d, unZ [11, 7] n (.d d) = .d d from fun _ _ => rfl, show putBack [11, 7] [.dl e, fmO a 2, fmD a A, fmO b 4, fmD b XA, .zl [.r 1, .r 3], .dl (A.map prSD), .dl (XA.map prSD), .zl [.r 6, .r 7], .dl (as.map .int), .dl (as.map .int ++ [.int 0]), .dl (XA.map prSD)] [.dl (XA.map prSD), .dl (XA.map prSD)] = [.dl e, fmO a 2, fmD a A, fmO b 4, fmD b XA, .zl [.r 1, .r 3], .dl (A.map prSD), .dl (XA.map prSD), .zl [.r 6, .r 7], .dl (as.map .int), .dl (as.map .int ++ [.int 0]), .dl (XA.map prSD)] from rfl]
         walk_at "zs"
         rw [List.length_map]
         refine ⟨by omega, ?_⟩
         try walk_at "zs"
         rw [show atZ [Z.r 1, Z.r 3] 0 = some (.r 1) from rfl]
         walk_at "zs"
         rw [show clsZ (Z.r 1) [.dl e, fmO a 2, fmD a A, fmO b 4, fmD b XA, .zl [.r 1, .r 3], .dl (A.map prSD), .dl (XA.map prSD), .zl [.r 6, .r 7], .dl (as.map .int), .dl (as.map .int ++ [.int 0]), .dl (XA.map prSD ++ [.tup [.str [97], .tup []]])] = some cFormulas from rfl, show (some cFormulas).bind mtFormulas_rows = some M_Formulas_rows from rfl]
         walk_at "zs"
         refine callG (zs' := [.r 0]) (h0 := [fmO a 1, fmD a A]) [1, 2] rfl rfl rfl rfl ?_
         refine wp_eq (frows_ok (by omega)) ?_
         rw [show unZ [1, 2] [.dl e, fmO a 2, fmD a A, fmO b 4, fmD b XA, .zl [.r 1, .r 3], .dl (A.map prSD), .dl (XA.map prSD), .zl [.r 6, .r 7], .dl (as.map .int), .dl (as.map .int ++ [.int 0]), .dl (XA.map prSD ++ [.tup [.str [97], .tup []]])].length (.r 2) = .r 12 from rfl, show putBack [1, 2] [.dl e, fmO a 2, fmD a A, fmO b 4, fmD b XA, .zl [.r 1, .r 3], .dl (A.map prSD), .dl (XA.map prSD), .zl [.r 6, .r 7], .dl (as.map .int), .dl (as.map .int ++ [.int 0]), .dl (XA.map prSD ++ [.tup [.str [97], .tup []]])] [fmO a 1, fmD a A, .dl (A.map prSD)] = [.dl e, fmO a 2, fmD a A, fmO b 4, fmD b XA, .zl [.r 1, .r 3], .dl (A.map prSD), .dl (XA.map prSD), .zl [.r 6, .r 7], .dl (as.map .int), .dl (as.map .int ++ [.int 0]), .dl (XA.map prSD ++ [.tup [.str [97], .tup []]]), .dl (A.map prSD)] from rfl]
         walk_at "zs"
         rw [show atZ [Z.r 6, Z.r 7] 0 = some (.r 6) from rfl]
         walk_at "zs"
         refine callG (zs' := [.r 0, .r 1]) (h0 := [.dl (A.map prSD), .dl (A.map prSD)]) [12, 6] rfl rfl rfl rfl ?_
         refine wp_eq (lrows_same (by omega) (fun p hp => by have := hA p hp; omega)) ?_
         rw [show ∀ n d, unZ [12, 6] n (.d d) = .d d from fun _ _ => rfl, show putBack [12, 6] [.dl e, fmO a 2, fmD a A, fmO b 4, fmD b XA, .zl [.r 1, .r 3], .dl (A.map prSD), .dl (XA.map prSD), .zl [.r 6, .r 7], .dl (as.map .int), .dl (as.map .int ++ [.int 0]), .dl (XA.map prSD ++ [.tup [.str [97], .tup []]]), .dl (A.map prSD)] [.dl (A.map prSD), .dl (A.map prSD)] = [.dl e, fmO a 2, fmD a A, fmO b 4, fmD b XA, .zl [.r 1, .r 3], .dl (A.map prSD), .dl (XA.map prSD), .zl [.r 6, .r 7], .dl (as.map .int), .dl (as.map .int ++ [.int 0]), .dl (XA.map prSD ++ [.tup [.str [97], .tup []]]), .dl (A.map prSD)] from rfl]
         walk_at "zz"
         exact ⟨e, A, XA, ie, hA, hX, by omega, by omega, rfl⟩
     · rw [if_neg h7]
       rw [List.length_map]
       refine draw_w rfl ie (by omega) fun q d6 i6 q0 q1 => ?_
       obtain ⟨f, ef⟩ : ∃ f, atD (cs.map D.str) q = some (.str f) := by
         obtain ⟨k, rfl⟩ : ∃ k : Nat, q = k := ⟨q.toNat, by omega⟩
         exact ⟨cs[k]'(by omega), by rw [Zl.at_nat, List.getElem?_map, List.getElem?_eq_getElem (by omega)]; rfl⟩
       walk_at "zs"
       rw [ef]
       walk_at "zs"
       rw [show atZ [Z.r 6, Z.r 7] 0 = some (.r 6) from rfl]
       walk_at "zs"
       rw [List.length_map]
       refine draw_w rfl i6 (by decide) fun q d7 i7 q0 q1 => ?_
       obtain ⟨m, hm, em⟩ : ∃ m : Nat, m ≤ 3 ∧ atD [.int 1, .int 2, .int 0, .int 3] q = some (.int (m : Int)) := by
         have : q = 0 ∨ q = 1 ∨ q = 2 ∨ q = 3 := by omega
         rcases this with rfl | rfl | rfl | rfl
         · exact ⟨1, by decide, rfl⟩
         · exact ⟨2, by decide, rfl⟩
         · exact ⟨0, by decide, rfl⟩
         · exact ⟨3, by decide, rfl⟩
       walk_at "zs"
       rw [em]
       walk_at "zs"
       refine ⟨inR_nat (n := m) (by omega), ?_⟩
       refine rngW (fun j s h => ∃ (e : List D) (as : List Int), Ints e ∧ as.length = j ∧ s = [some (.d (.scr (ns.map .int))), some (.r 0), some (.d (.lst (cs.map .str))), some (.d (.lst [.int (a : Int), .int (b : Int)])), some (.r 5), some (.r 8), some (.d (.int (i : Int))), some (.d (.int 0)), some (.d (.str f)), some (.d (.int ((a : Int) + (A.length : Int)))), some (.r 9), none, none, none, none, none, none] ∧ h = [.dl e, fmO a 2, fmD a A, fmO b 4, fmD b B, .zl [.r 1, .r 3], .dl (A.map prSD), .dl (B.map prSD), .zl [.r 6, .r 7], .dl (as.map .int)]) ⟨d7, [], i7, rfl, rfl, rfl⟩ ?_ ?_
       · rintro j s h hj ⟨e, as, ie, la, es, eh⟩
         rw [es, eh]
         walk_at "zs"
         refine draw_w rfl ie (by decide) fun q d8 i8 q0 q1 => ?_
         walk_at "zs"
         refine ⟨by omega, ?_⟩
         refine draw_w rfl i8 (by decide) fun r d9 i9 r0 r1 => ?_
         walk_at "zs"
         refine seqF (fun s h => ∃ (e : List D) (x : Int), Ints e ∧ s = [some (.d (.scr (ns.map .int))), some (.r 0), some (.d (.lst (cs.map .str))), some (.d (.lst [.int (a : Int), .int (b : Int)])), some (.r 5), some (.r 8), some (.d (.int (i : Int))), some (.d (.int 0)), some (.d (.str f)), some (.d (.int ((a : Int) + (A.length : Int)))), some (.r 9), some (.d (.int (j : Int))), some (.d (.int x)), none, none, none, none] ∧ h = [.dl e, fmO a 2, fmD a A, fmO b 4, fmD b B, .zl [.r 1, .r 3], .dl (A.map prSD), .dl (B.map prSD), .zl [.r 6, .r 7], .dl (as.map .int)]) ?_ ?_
         · by_cases hr : r = 9
           · rw [if_pos hr]
             walk_at "zs"
             refine draw_w rfl i9 (by decide) fun t d10 i10 t0 t1 => ?_
             have pick : ∀ (y0 y1 y2 y3 : Int), ∃ x, atD [.int y0, .int y1, .int y2, .int y3] t = some (.int x) := fun y0 y1 y2 y3 => by
               have : t = 0 ∨ t = 1 ∨ t = 2 ∨ t = 3 := by omega
               rcases this with rfl | rfl | rfl | rfl
               · exact ⟨_, rfl⟩
               · exact ⟨_, rfl⟩
               · exact ⟨_, rfl⟩
               · exact ⟨_, rfl⟩
             walk_at "zs"
             obtain ⟨x, ex⟩ := pick ((a : Int) + (A.length : Int)) (-1) ((a : Int) + (A.length : Int) + 7) (0 - ((a : Int) + (A.length : Int)))
             first | rw [ex] | (rw [Int.zero_sub] at ex; rw [ex])
             walk_at "zs"
             exact ⟨d10, x, i10, rfl, rfl⟩
           · rw [if_neg hr]
             walk_at "zs"
             exact ⟨d9, _, i9, rfl, rfl⟩
         · rintro s h ⟨e, x, ie, es, eh⟩
           rw [es, eh]
           walk_at "zs"
           rw [List.length_map]
           refine ⟨by omega, ?_⟩
           try walk_at "zz"
           exact ⟨e, as ++ [x], ie, by simp [la], by rw [List.map_append]; rfl⟩
       rintro s h ⟨e, as, ie, la, es, eh⟩
       rw [es, eh]
       walk_at "zs"
       rw [show atZ [Z.r 6, Z.r 7] 0 = some (.r 6) from rfl]
       walk_at "zs"
       refine callG (zs' := [.d _, .r 0, .d _, .r 1]) (h0 := [.dl (A.map prSD), .dl (as.map .int)]) [6, 9] rfl rfl rfl rfl ?_
       refine wp_eq (ldue_ok (by omega) (by omega) (by omega)) ?_
       rw [show ∀ n d, unZ [6, 9] n (.d d) = .d d from fun _ _ => rfl, show putBack [6, 9] [.dl e, fmO a 2, fmD a A, fmO b 4, fmD b B, .zl [.r 1, .r 3], .dl (A.map prSD), .dl (B.map prSD), .zl [.r 6, .r 7], .dl (as.map .int)] [.dl (A.map prSD), .dl (as.map .int)] = [.dl e, fmO a 2, fmD a A, fmO b 4, fmD b B, .zl [.r 1, .r 3], .dl (A.map prSD), .dl (B.map prSD), .zl [.r 6, .r 7], .dl (as.map .int)] from rfl]
       walk_at "zs"
       rw [show atZ [Z.r 1, Z.r 3] 0 = some (.r 1) from rfl]
       walk_at "zs"
       refine callG (zs' := [.r 0, .d _, .r 2]) (h0 := [fmO a 1, fmD a A, .dl (as.map .int)]) [1, 2, 10] rfl rfl rfl rfl ?_
       refine wp_eq (called_r (by omega) (by omega) (by omega)) ?_
       rw [show ∀ n d, unZ [1, 2, 10] n (.d d) = .d d from fun _ _ => rfl, show putBack [1, 2, 10] [.dl e, fmO a 2, fmD a A, fmO b 4, fmD b B, .zl [.r 1, .r 3], .dl (A.map prSD), .dl (B.map prSD), .zl [.r 6, .r 7], .dl (as.map .int), .dl (as.map .int)] [fmO a 1, fmD a (nextR a A f as), .dl (as.map .int)] = [.dl e, fmO a 2, fmD a (nextR a A f as), fmO b 4, fmD b B, .zl [.r 1, .r 3], .dl (A.map prSD), .dl (B.map prSD), .zl [.r 6, .r 7], .dl (as.map .int), .dl (as.map .int)] from rfl]
       walk_at "zs"
       rw [peq_told]
       walk_at "zs"
       have lasm : as.length ≤ 3 := by omega
       have rest : ∀ (s : ZS) (A2 : List Row), True := fun _ _ => trivial
       cases hb : badA (a + A.length) as with
       | some bad =>
         rw [show toldD a A f as = .tup [.str UNKN, .int bad] by unfold toldD; rw [hb], show nextR a A f as = A by unfold nextR; rw [hb]]
         walk_at "zs"
         refine callW_eq (xs := [_]) (isnum_ok _) ?_
         walk_at "zs"
         rw [eq_rr (b := true) rfl rfl peq_ints]
         walk_at "zs"
         rw [List.length_map]
         refine ⟨by omega, ?_⟩
         try walk_at "zs"
         rw [if_neg (by decide)]
         try walk_at "zs"
         rw [show atZ [Z.r 1, Z.r 3] 0 = some (.r 1) from rfl]
         walk_at "zs"
         rw [show clsZ (Z.r 1) [.dl e, fmO a 2, fmD a A, fmO b 4, fmD b B, .zl [.r 1, .r 3], .dl (A.map prSD), .dl (B.map prSD), .zl [.r 6, .r 7], .dl (as.map .int), .dl (as.map .int ++ [.int 0])] = some cFormulas from rfl, show (some cFormulas).bind mtFormulas_rows = some M_Formulas_rows from rfl]
         walk_at "zs"
         refine callG (zs' := [.r 0]) (h0 := [fmO a 1, fmD a A]) [1, 2] rfl rfl rfl rfl ?_
         refine wp_eq (frows_ok (by omega)) ?_
         rw [show unZ [1, 2] [.dl e, fmO a 2, fmD a A, fmO b 4, fmD b B, .zl [.r 1, .r 3], .dl (A.map prSD), .dl (B.map prSD), .zl [.r 6, .r 7], .dl (as.map .int), .dl (as.map .int ++ [.int 0])].length (.r 2) = .r 11 from rfl, show putBack [1, 2] [.dl e, fmO a 2, fmD a A, fmO b 4, fmD b B, .zl [.r 1, .r 3], .dl (A.map prSD), .dl (B.map prSD), .zl [.r 6, .r 7], .dl (as.map .int), .dl (as.map .int ++ [.int 0])] [fmO a 1, fmD a A, .dl (A.map prSD)] = [.dl e, fmO a 2, fmD a A, fmO b 4, fmD b B, .zl [.r 1, .r 3], .dl (A.map prSD), .dl (B.map prSD), .zl [.r 6, .r 7], .dl (as.map .int), .dl (as.map .int ++ [.int 0]), .dl (A.map prSD)] from rfl]
         walk_at "zs"
         rw [show atZ [Z.r 6, Z.r 7] 0 = some (.r 6) from rfl]
         walk_at "zs"
         refine callG (zs' := [.r 0, .r 1]) (h0 := [.dl (A.map prSD), .dl (A.map prSD)]) [11, 6] rfl rfl rfl rfl ?_
         refine wp_eq (lrows_same (by omega) (fun p hp => by have := hA p hp; omega)) ?_
         rw [show ∀ n d, unZ [11, 6] n (.d d) = .d d from fun _ _ => rfl, show putBack [11, 6] [.dl e, fmO a 2, fmD a A, fmO b 4, fmD b B, .zl [.r 1, .r 3], .dl (A.map prSD), .dl (B.map prSD), .zl [.r 6, .r 7], .dl (as.map .int), .dl (as.map .int ++ [.int 0]), .dl (A.map prSD)] [.dl (A.map prSD), .dl (A.map prSD)] = [.dl e, fmO a 2, fmD a A, fmO b 4, fmD b B, .zl [.r 1, .r 3], .dl (A.map prSD), .dl (B.map prSD), .zl [.r 6, .r 7], .dl (as.map .int), .dl (as.map .int ++ [.int 0]), .dl (A.map prSD)] from rfl]
         walk_at "zs"
         rw [List.length_map]
         refine ⟨by omega, ?_⟩
         try walk_at "zs"
         rw [show atZ [Z.r 1, Z.r 3] 1 = some (.r 3) from rfl]
         walk_at "zs"
         rw [show clsZ (Z.r 3) [.dl e, fmO a 2, fmD a A, fmO b 4, fmD b B, .zl [.r 1, .r 3], .dl (A.map prSD), .dl (B.map prSD), .zl [.r 6, .r 7], .dl (as.map .int), .dl (as.map .int ++ [.int 0]), .dl (A.map prSD ++ [.tup [.str [97], .tup []]])] = some cFormulas from rfl, show (some cFormulas).bind mtFormulas_rows = some M_Formulas_rows from rfl]
         walk_at "zs"
         refine callG (zs' := [.r 0]) (h0 := [fmO b 1, fmD b B]) [3, 4] rfl rfl rfl rfl ?_
         refine wp_eq (frows_ok (by omega)) ?_
         rw [show unZ [3, 4] [.dl e, fmO a 2, fmD a A, fmO b 4, fmD b B, .zl [.r 1, .r 3], .dl (A.map prSD), .dl (B.map prSD), .zl [.r 6, .r 7], .dl (as.map .int), .dl (as.map .int ++ [.int 0]), .dl (A.map prSD ++ [.tup [.str [97], .tup []]])].length (.r 2) = .r 12 from rfl, show putBack [3, 4] [.dl e, fmO a 2, fmD a A, fmO b 4, fmD b B, .zl [.r 1, .r 3], .dl (A.map prSD), .dl (B.map prSD), .zl [.r 6, .r 7], .dl (as.map .int), .dl (as.map .int ++ [.int 0]), .dl (A.map prSD ++ [.tup [.str [97], .tup []]])] [fmO b 1, fmD b B, .dl (B.map prSD)] = [.dl e, fmO a 2, fmD a A, fmO b 4, fmD b B, .zl [.r 1, .r 3], .dl (A.map prSD), .dl (B.map prSD), .zl [.r 6, .r 7], .dl (as.map .int), .dl (as.map .int ++ [.int 0]), .dl (A.map prSD ++ [.tup [.str [97], .tup []]]), .dl (B.map prSD)] from rfl]
         walk_at "zs"
         rw [show atZ [Z.r 6, Z.r 7] 1 = some (.r 7) from rfl]
         walk_at "zs"
         refine callG (zs' := [.r 0, .r 1]) (h0 := [.dl (B.map prSD), .dl (B.map prSD)]) [12, 7] rfl rfl rfl rfl ?_
         refine wp_eq (lrows_same (by omega) (fun p hp => by have := hB p hp; omega)) ?_
         rw [show ∀ n d, unZ [12, 7] n (.d d) = .d d from fun _ _ => rfl, show putBack [12, 7] [.dl e, fmO a 2, fmD a A, fmO b 4, fmD b B, .zl [.r 1, .r 3], .dl (A.map prSD), .dl (B.map prSD), .zl [.r 6, .r 7], .dl (as.map .int), .dl (as.map .int ++ [.int 0]), .dl (A.map prSD ++ [.tup [.str [97], .tup []]]), .dl (B.map prSD)] [.dl (B.map prSD), .dl (B.map prSD)] = [.dl e, fmO a 2, fmD a A, fmO b 4, fmD b B, .zl [.r 1, .r 3], .dl (A.map prSD), .dl (B.map prSD), .zl [.r 6, .r 7], .dl (as.map .int), .dl (as.map .int ++ [.int 0]), .dl (A.map prSD ++ [.tup [.str [97], .tup []]]), .dl (B.map prSD)] from rfl]
         walk_at "zz"
         exact ⟨e, A, B, ie, hA, hB, by omega, by omega, rfl⟩
       | none =>
         rw [show toldD a A f as = .tup [.str NUMB, .int ((a + A.idxOf (f, as) : Nat) : Int)] by unfold toldD; rw [hb], show nextR a A f as = addR A (f, as) by unfold nextR; rw [hb]]
         walk_at "zs"
         refine callW_eq (xs := [_]) (isnum_ok _) ?_
         walk_at "zs"
         rw [eq_rr (b := true) rfl rfl peq_ints]
         walk_at "zs"
         rw [List.length_map]
         refine ⟨by omega, ?_⟩
         try walk_at "zs"
         rw [if_pos (by decide)]
         walk_at "zs"
         refine seqF (fun s h => s = [some (.d (.scr (ns.map .int))), some (.r 0), some (.d (.lst (cs.map .str))), some (.d (.lst [.int (a : Int), .int (b : Int)])), some (.r 5), some (.r 8), some (.d (.int (i : Int))), some (.d (.int 0)), some (.d (.str f)), some (.d (.int ((a : Int) + (A.length : Int)))), some (.r 9), none, none, some (.d (.tup [.str NUMB, .int ((a + A.idxOf (f, as) : Nat) : Int)])), some (.r 10), some (.d (.tup [.str NUMB, .int ((a + A.idxOf (f, as) : Nat) : Int)])), none] ∧ h = [.dl e, fmO a 2, fmD a (addR A (f, as)), fmO b 4, fmD b B, .zl [.r 1, .r 3], .dl ((addR A (f, as)).map prSD), .dl (B.map prSD), .zl [.r 6, .r 7], .dl (as.map .int), .dl (as.map .int ++ [.int 0])]) ?_ ?_
         · by_cases hin : (f, as) ∈ A
           · have := List.idxOf_lt_length_of_mem hin
             rw [if_neg (by omega)]
             walk_at "zs"
             first | done | (rw [show addR A (f, as) = A by unfold addR; rw [if_pos hin]])
             first | done | exact ⟨rfl, rfl⟩ | rfl
           · rw [if_pos (by rw [List.idxOf_eq_length hin]; omega)]
             walk_at "zs"
             rw [show atZ [Z.r 6, Z.r 7] 0 = some (.r 6) from rfl]
             walk_at "zs"
             rw [List.length_map]
             refine ⟨by omega, ?_⟩
             rw [show addR A (f, as) = A ++ [(f, as)] by unfold addR; rw [if_neg hin], List.map_append]
             first | done | exact ⟨rfl, rfl⟩ | rfl
         rintro s h ⟨es, eh⟩
         rw [es, eh]
         have hX := small_add (p := (f, as)) hA lasm
         have lX := addR_len (R := A) (p := (f, as))
         obtain ⟨ag1, ag2⟩ := again (f := f) hb
         walk_at "zs"
         rw [show atZ [Z.r 1, Z.r 3] 0 = some (.r 1) from rfl]
         walk_at "zs"
         refine callG (zs' := [.r 0, .d _, .d _]) (h0 := [fmO a 1, fmD a (addR A (f, as))]) [1, 2] rfl rfl rfl rfl ?_
         refine wp_eq (called_t (by omega) (by omega) (by omega)) ?_
         rw [ag1, ag2]
         rw [show ∀ n d, unZ [1, 2] n (.d d) = .d d from fun _ _ => rfl, show putBack [1, 2] [.dl e, fmO a 2, fmD a (addR A (f, as)), fmO b 4, fmD b B, .zl [.r 1, .r 3], .dl ((addR A (f, as)).map prSD), .dl (B.map prSD), .zl [.r 6, .r 7], .dl (as.map .int), .dl (as.map .int ++ [.int 0])] [fmO a 1, fmD a (addR A (f, as))] = [.dl e, fmO a 2, fmD a (addR A (f, as)), fmO b 4, fmD b B, .zl [.r 1, .r 3], .dl ((addR A (f, as)).map prSD), .dl (B.map prSD), .zl [.r 6, .r 7], .dl (as.map .int), .dl (as.map .int ++ [.int 0])] from rfl]
         walk_at "zs"
         rw [peq_toldN]
         walk_at "zs"
         generalize addR A (f, as) = XA at *
         try walk_at "zs"
         rw [show atZ [Z.r 1, Z.r 3] 0 = some (.r 1) from rfl]
         walk_at "zs"
         rw [show clsZ (Z.r 1) [.dl e, fmO a 2, fmD a XA, fmO b 4, fmD b B, .zl [.r 1, .r 3], .dl (XA.map prSD), .dl (B.map prSD), .zl [.r 6, .r 7], .dl (as.map .int), .dl (as.map .int ++ [.int 0])] = some cFormulas from rfl, show (some cFormulas).bind mtFormulas_rows = some M_Formulas_rows from rfl]
         walk_at "zs"
         refine callG (zs' := [.r 0]) (h0 := [fmO a 1, fmD a XA]) [1, 2] rfl rfl rfl rfl ?_
         refine wp_eq (frows_ok (by omega)) ?_
         rw [show unZ [1, 2] [.dl e, fmO a 2, fmD a XA, fmO b 4, fmD b B, .zl [.r 1, .r 3], .dl (XA.map prSD), .dl (B.map prSD), .zl [.r 6, .r 7], .dl (as.map .int), .dl (as.map .int ++ [.int 0])].length (.r 2) = .r 11 from rfl, show putBack [1, 2] [.dl e, fmO a 2, fmD a XA, fmO b 4, fmD b B, .zl [.r 1, .r 3], .dl (XA.map prSD), .dl (B.map prSD), .zl [.r 6, .r 7], .dl (as.map .int), .dl (as.map .int ++ [.int 0])] [fmO a 1, fmD a XA, .dl (XA.map prSD)] = [.dl e, fmO a 2, fmD a XA, fmO b 4, fmD b B, .zl [.r 1, .r 3], .dl (XA.map prSD), .dl (B.map prSD), .zl [.r 6, .r 7], .dl (as.map .int), .dl (as.map .int ++ [.int 0]), .dl (XA.map prSD)] from rfl]
         walk_at "zs"
         rw [show atZ [Z.r 6, Z.r 7] 0 = some (.r 6) from rfl]
         walk_at "zs"
         refine callG (zs' := [.r 0, .r 1]) (h0 := [.dl (XA.map prSD), .dl (XA.map prSD)]) [11, 6] rfl rfl rfl rfl ?_
         refine wp_eq (lrows_same (by omega) (fun p hp => by have := hX p hp; omega)) ?_
         rw [show ∀ n d, unZ [11, 6] n (.d d) = .d d from fun _ _ => rfl, show putBack [11, 6] [.dl e, fmO a 2, fmD a XA, fmO b 4, fmD b B, .zl [.r 1, .r 3], .dl (XA.map prSD), .dl (B.map prSD), .zl [.r 6, .r 7], .dl (as.map .int), .dl (as.map .int ++ [.int 0]), .dl (XA.map prSD)] [.dl (XA.map prSD), .dl (XA.map prSD)] = [.dl e, fmO a 2, fmD a XA, fmO b 4, fmD b B, .zl [.r 1, .r 3], .dl (XA.map prSD), .dl (B.map prSD), .zl [.r 6, .r 7], .dl (as.map .int), .dl (as.map .int ++ [.int 0]), .dl (XA.map prSD)] from rfl]
         walk_at "zs"
         rw [List.length_map]
         refine ⟨by omega, ?_⟩
         try walk_at "zs"
         rw [show atZ [Z.r 1, Z.r 3] 1 = some (.r 3) from rfl]
         walk_at "zs"
         rw [show clsZ (Z.r 3) [.dl e, fmO a 2, fmD a XA, fmO b 4, fmD b B, .zl [.r 1, .r 3], .dl (XA.map prSD), .dl (B.map prSD), .zl [.r 6, .r 7], .dl (as.map .int), .dl (as.map .int ++ [.int 0]), .dl (XA.map prSD ++ [.tup [.str [97], .tup []]])] = some cFormulas from rfl, show (some cFormulas).bind mtFormulas_rows = some M_Formulas_rows from rfl]
         walk_at "zs"
         refine callG (zs' := [.r 0]) (h0 := [fmO b 1, fmD b B]) [3, 4] rfl rfl rfl rfl ?_
         refine wp_eq (frows_ok (by omega)) ?_
         rw [show unZ [3, 4] [.dl e, fmO a 2, fmD a XA, fmO b 4, fmD b B, .zl [.r 1, .r 3], .dl (XA.map prSD), .dl (B.map prSD), .zl [.r 6, .r 7], .dl (as.map .int), .dl (as.map .int ++ [.int 0]), .dl (XA.map prSD ++ [.tup [.str [97], .tup []]])].length (.r 2) = .r 12 from rfl, show putBack [3, 4] [.dl e, fmO a 2, fmD a XA, fmO b 4, fmD b B, .zl [.r 1, .r 3], .dl (XA.map prSD), .dl (B.map prSD), .zl [.r 6, .r 7], .dl (as.map .int), .dl (as.map .int ++ [.int 0]), .dl (XA.map prSD ++ [.tup [.str [97], .tup []]])] [fmO b 1, fmD b B, .dl (B.map prSD)] = [.dl e, fmO a 2, fmD a XA, fmO b 4, fmD b B, .zl [.r 1, .r 3], .dl (XA.map prSD), .dl (B.map prSD), .zl [.r 6, .r 7], .dl (as.map .int), .dl (as.map .int ++ [.int 0]), .dl (XA.map prSD ++ [.tup [.str [97], .tup []]]), .dl (B.map prSD)] from rfl]
         walk_at "zs"
         rw [show atZ [Z.r 6, Z.r 7] 1 = some (.r 7) from rfl]
         walk_at "zs"
         refine callG (zs' := [.r 0, .r 1]) (h0 := [.dl (B.map prSD), .dl (B.map prSD)]) [12, 7] rfl rfl rfl rfl ?_
         refine wp_eq (lrows_same (by omega) (fun p hp => by have := hB p hp; omega)) ?_
         rw [show ∀ n d, unZ [12, 7] n (.d d) = .d d from fun _ _ => rfl, show putBack [12, 7] [.dl e, fmO a 2, fmD a XA, fmO b 4, fmD b B, .zl [.r 1, .r 3], .dl (XA.map prSD), .dl (B.map prSD), .zl [.r 6, .r 7], .dl (as.map .int), .dl (as.map .int ++ [.int 0]), .dl (XA.map prSD ++ [.tup [.str [97], .tup []]]), .dl (B.map prSD)] [.dl (B.map prSD), .dl (B.map prSD)] = [.dl e, fmO a 2, fmD a XA, fmO b 4, fmD b B, .zl [.r 1, .r 3], .dl (XA.map prSD), .dl (B.map prSD), .zl [.r 6, .r 7], .dl (as.map .int), .dl (as.map .int ++ [.int 0]), .dl (XA.map prSD ++ [.tup [.str [97], .tup []]]), .dl (B.map prSD)] from rfl]
         walk_at "zz"
         exact ⟨e, XA, B, ie, hX, hB, by omega, by omega, rfl⟩
   · rintro s h ⟨e, A, B, ie, hA, hB, lA, lB, es, eh⟩
     rw [es, eh]
     walk_at "zz"
     done
 obtain ⟨z, h, e, rfl⟩ := wp_ex w
 exact ⟨h, e⟩
end
end Zl
end
end
section
namespace Zl
open PySem PySem.Spec PyProof.Rows L2
structure Txt (g : G) (mg : Str → Option Value) : Prop where
 n_ValueError : mg "ValueError" = none
 n_abs : mg "abs" = none
 n_bool : mg "bool" = none
 n_int : mg "int" = none
 n_isinstance : mg "isinstance" = none
 n_len : mg "len" = none
 n_list : mg "list" = none
 n_range : mg "range" = none
 n_str : mg "str" = none
 n_tuple : mg "tuple" = none
 cls : ClsOk g
 excC : ∀ c, g.hasX c = true → ExcC g.K (g.cad c)
 isx_ok : ∀ c x, g.hasX c = true → g.hasX x = true → ∀ b, isx c x = some b → PySem.W.kitOne g.K (.ref (g.cad c)) (.ref (g.cad x)) = some b
 isVE : ∀ c, g.hasX c = true → PySem.W.kitOne g.K (.ref (g.cad c)) (.type "ValueError") = some true
 g_Formulas : mg "Formulas" = some (.ref (g.cad cFormulas))
 g_UnknownFormula : mg "UnknownFormula" = some (.ref (g.cad cUnknownFormula))
 g_WeaveError : mg "WeaveError" = some (.ref (g.cad cWeaveError))
 has_Formulas : g.has cFormulas = true
 hit_UnknownFormula : HitOk g.K g (.ref (g.cad cUnknownFormula)) (hit_c cUnknownFormula)
 hx_WeaveError : g.hasX cWeaveError = true
 noX_number : ∀ c, g.hasX c = true → PySem.W.findIn g.K (.ref (g.cad c)) "number" = some none
theorem sc_law_mixed : FnScope ["_law_cell", "_law_k", "_law_first", "_law_second"] ["_law_cell", "_law_k"] (defScope s_law_mixed) := ⟨rfl, rfl, rfl, by decide +kernel, rfl, by decide +kernel, by decide +kernel⟩
theorem ok_law_mixed {P : Program} {g : G} {mg : Str → Option Value} {base : Heap} {k : Nat} {f : Addr} {fd : FuncData} (F : FunD g.K "_law_mixed" "_law_mixed" (defArgs s_law_mixed) (defBody s_law_mixed) (defScope s_law_mixed) [] [] f fd) (T : Txt g mg)  :
   FnOk P g.w g.K mg base (L2.CX P g.w) (k + 1) f fd ["_law_cell", "_law_k"] (lowF g M_law_mixed) := by
 refine fun_ok F sc_law_mixed fun F cdv A outer s H E hr => ?_
 have tk := takesF (P := P) (w := g.w) (K := g.K) (mg := mg) (base := base) (N := ["_law_cell", "_law_k", "_law_first", "_law_second"]) (qual := "_law_mixed") (sc := defScope s_law_mixed) (f := f) (cdv := cdv) (A := A) (outer := outer) (s := s) (H := H) (E := E)
 have po : PassesOwn _ _ _ _ := passes_of (X := cxOf (L2.CX P g.w) P g.w g.K mg base ["_law_cell", "_law_k", "_law_first", "_law_second"] "_law_mixed" (defScope s_law_mixed) f cdv A outer s H E) rfl
 have sc := sc_law_mixed
 exact zs_end _ (zs_cons (z_set 2 sc.nd (z_mod (zc_int rfl T.n_int (za_cons (z_add rfl (z_add rfl (z_mul (z_var 0) (z_int)) (z_mul (z_var 1) (z_int))) (z_int)) (za_nil))) (z_int))) (zs_cons (z_set 3 sc.nd (z_mod (zc_int rfl T.n_int (za_cons (z_add rfl (z_add rfl (z_mul (z_var 2) (z_var 2)) (z_mul (z_var 1) (z_int))) (z_int)) (za_nil))) (z_int))) (zs_one (z_ret (z_mod (zc_int rfl T.n_int (za_cons (z_add rfl (z_mul (z_var 3) (z_var 3)) (z_var 2)) (za_nil))) (z_int))))))
theorem sc_law_pool : FnScope ["_law_script", "_law_pool_here", "_law_at", "_law_left", "_law_k"] ["_law_script"] (defScope s_law_pool) := ⟨rfl, rfl, rfl, by decide +kernel, rfl, by decide +kernel, by decide +kernel⟩
theorem ok_law_pool {P : Program} {g : G} {mg : Str → Option Value} {base : Heap} {k : Nat} {f : Addr} {fd : FuncData} (F : FunD g.K "_law_pool" "_law_pool" (defArgs s_law_pool) (defBody s_law_pool) (defScope s_law_pool) [] [] f fd) (T : Txt g mg) (C_law_mixed : Cal P g.w g mg base (k) "_law_mixed" ["_law_cell", "_law_k"] M_law_mixed) :
   FnOk P g.w g.K mg base (L2.CX P g.w) (k + 1) f fd ["_law_script"] (lowF g M_law_pool) := by
 obtain ⟨f_law_mixed, fd_law_mixed, m_law_mixed, T_law_mixed⟩ := C_law_mixed
 refine fun_ok F sc_law_pool fun F cdv A outer s H E hr => ?_
 have tk := takesF (P := P) (w := g.w) (K := g.K) (mg := mg) (base := base) (N := ["_law_script", "_law_pool_here", "_law_at", "_law_left", "_law_k"]) (qual := "_law_pool") (sc := defScope s_law_pool) (f := f) (cdv := cdv) (A := A) (outer := outer) (s := s) (H := H) (E := E)
 have po : PassesOwn _ _ _ _ := passes_of (X := cxOf (L2.CX P g.w) P g.w g.K mg base ["_law_script", "_law_pool_here", "_law_at", "_law_left", "_law_k"] "_law_pool" (defScope s_law_pool) f cdv A outer s H E) rfl
 have sc := sc_law_pool
 exact zs_end _ (zs_cons (z_set 1 sc.nd (z_lstO (za_nil))) (zs_cons (z_for po rfl (zi_range1 (by rfl) T.n_range (za_cons (zc_len rfl T.n_len (za_cons (z_var 0) (za_nil))) (za_nil))) (zg_name 2 sc.nd) gSet_ok (zs_end [2, 3, 4] (zs_cons (z_set 3 sc.nd (zc_abs rfl T.n_abs (za_cons (zc_int rfl T.n_int (za_cons (z_ix rfl (z_var 0) (z_var 2)) (za_nil))) (za_nil)))) (zs_one (z_ifs (zt_lt  (z_var 3) (z_pow (z_int) (z_int))) (zs_one (z_for po rfl (zi_range1 (by rfl) T.n_range (za_cons (z_int) (za_nil))) (zg_name 4 sc.nd) gSet_ok (zs_end [4] (zs_one (z_expr (z_append rfl (z_var 1) (za_cons (z_call T_law_mixed hr tk (by rfl) m_law_mixed (za_cons (z_var 3) (za_cons (z_add rfl (z_mul (z_int) (z_var 2)) (z_var 4)) (za_nil)))) (za_nil)))))))) (zs_one (z_for po rfl (zi_range1 (by rfl) T.n_range (za_cons (z_int) (za_nil))) (zg_name 4 sc.nd) gSet_ok (zs_end [4] (zs_one (z_ifs (zt_gt  (z_var 3) (z_int)) (zs_cons (z_expr (z_append rfl (z_var 1) (za_cons (z_mod (zc_int rfl T.n_int (za_cons (z_var 3) (za_nil))) (z_int)) (za_nil)))) (zs_one (z_set 3 sc.nd (z_div (z_var 3) (z_int))))) (zs_nil))))))))))) (zs_cons (z_expr (z_reverse rfl (z_var 1))) (zs_one (z_ret (z_var 1))))))
theorem sc_law_draw : FnScope ["_law_pool_here", "_law_many"] ["_law_pool_here", "_law_many"] (defScope s_law_draw) := ⟨rfl, rfl, rfl, by decide +kernel, rfl, by decide +kernel, by decide +kernel⟩
theorem ok_law_draw {P : Program} {g : G} {mg : Str → Option Value} {base : Heap} {k : Nat} {f : Addr} {fd : FuncData} (F : FunD g.K "_law_draw" "_law_draw" (defArgs s_law_draw) (defBody s_law_draw) (defScope s_law_draw) [] [] f fd) (T : Txt g mg)  :
   FnOk P g.w g.K mg base (L2.CX P g.w) (k + 1) f fd ["_law_pool_here", "_law_many"] (lowF g M_law_draw) := by
 refine fun_ok F sc_law_draw fun F cdv A outer s H E hr => ?_
 have tk := takesF (P := P) (w := g.w) (K := g.K) (mg := mg) (base := base) (N := ["_law_pool_here", "_law_many"]) (qual := "_law_draw") (sc := defScope s_law_draw) (f := f) (cdv := cdv) (A := A) (outer := outer) (s := s) (H := H) (E := E)
 have po : PassesOwn _ _ _ _ := passes_of (X := cxOf (L2.CX P g.w) P g.w g.K mg base ["_law_pool_here", "_law_many"] "_law_draw" (defScope s_law_draw) f cdv A outer s H E) rfl
 have sc := sc_law_draw
 exact zs_end _ (zs_cons (z_ifs (zt_eq rfl hr (z_var 0) (z_lst (za_nil))) (zs_one (z_ret (z_int))) (zs_nil)) (zs_one (z_ret (z_mod (zc_int rfl T.n_int (za_cons (z_pop rfl (z_var 0)) (za_nil))) (z_var 1)))))
theorem sc_law_names : FnScope ["_law_pool_here", "_law_count", "_law_letters", "_law_choice", "_law_shift", "_law_stride", "_law_front", "_law_k", "_law_back", "_law_names_here", "_law_name"] ["_law_pool_here", "_law_count"] (defScope s_law_names) := ⟨rfl, rfl, rfl, by decide +kernel, rfl, by decide +kernel, by decide +kernel⟩
theorem ok_law_names {P : Program} {g : G} {mg : Str → Option Value} {base : Heap} {k : Nat} {f : Addr} {fd : FuncData} (F : FunD g.K "_law_names" "_law_names" (defArgs s_law_names) (defBody s_law_names) (defScope s_law_names) [] [] f fd) (T : Txt g mg) (C_law_draw : Cal P g.w g mg base (k) "_law_draw" ["_law_pool_here", "_law_many"] M_law_draw) :
   FnOk P g.w g.K mg base (L2.CX P g.w) (k + 1) f fd ["_law_pool_here", "_law_count"] (lowF g M_law_names) := by
 obtain ⟨f_law_draw, fd_law_draw, m_law_draw, T_law_draw⟩ := C_law_draw
 refine fun_ok F sc_law_names fun F cdv A outer s H E hr => ?_
 have tk := takesF (P := P) (w := g.w) (K := g.K) (mg := mg) (base := base) (N := ["_law_pool_here", "_law_count", "_law_letters", "_law_choice", "_law_shift", "_law_stride", "_law_front", "_law_k", "_law_back", "_law_names_here", "_law_name"]) (qual := "_law_names") (sc := defScope s_law_names) (f := f) (cdv := cdv) (A := A) (outer := outer) (s := s) (H := H) (E := E)
 have po : PassesOwn _ _ _ _ := passes_of (X := cxOf (L2.CX P g.w) P g.w g.K mg base ["_law_pool_here", "_law_count", "_law_letters", "_law_choice", "_law_shift", "_law_stride", "_law_front", "_law_k", "_law_back", "_law_names_here", "_law_name"] "_law_names" (defScope s_law_names) f cdv A outer s H E) rfl
 have sc := sc_law_names
 exact zs_end _ (zs_cons (z_set 2 sc.nd (z_str [97, 98, 99, 100, 101, 102, 103, 104, 105, 106, 107, 108, 109, 110, 111, 112, 113, 114, 115, 116, 117, 118, 119, 120, 121, 122])) (zs_cons (z_set 3 sc.nd (z_call T_law_draw hr tk (by rfl) m_law_draw (za_cons (z_var 0) (za_cons (z_int) (za_nil))))) (zs_cons (z_ifs (zt_eq rfl hr (z_var 3) (z_int)) (zs_one (z_ret (z_sl rfl (z_lst (za_cons (z_str [114, 101, 97, 100]) (za_cons (z_str [97, 115]) (za_cons (z_str [119, 114, 105, 116, 101]) (za_cons (z_str [98, 121]) (za_cons (z_str [111, 102]) (za_cons (z_str [112, 114, 111, 103, 114, 97, 109]) (za_nil)))))))) zo_none (zo_some (z_var 1))))) (zs_nil)) (zs_cons (z_set 4 sc.nd (z_call T_law_draw hr tk (by rfl) m_law_draw (za_cons (z_var 0) (za_cons (z_int) (za_nil))))) (zs_cons (z_set 5 sc.nd (z_ix rfl (z_lst (za_cons (z_int) (za_cons (z_int) (za_cons (z_int) (za_nil))))) (z_call T_law_draw hr tk (by rfl) m_law_draw (za_cons (z_var 0) (za_cons (z_int) (za_nil)))))) (zs_cons (z_set 6 sc.nd (z_str [])) (zs_cons (z_for po rfl (zi_range1 (by rfl) T.n_range (za_cons (z_call T_law_draw hr tk (by rfl) m_law_draw (za_cons (z_var 0) (za_cons (z_int) (za_nil)))) (za_nil))) (zg_name 7 sc.nd) gSet_ok (zs_end [7] (zs_one (z_set 6 sc.nd (z_add rfl (z_var 6) (z_ix rfl (z_var 2) (z_call T_law_draw hr tk (by rfl) m_law_draw (za_cons (z_var 0) (za_cons (z_int) (za_nil)))))))))) (zs_cons (z_set 8 sc.nd (z_str [])) (zs_cons (z_for po rfl (zi_range1 (by rfl) T.n_range (za_cons (z_call T_law_draw hr tk (by rfl) m_law_draw (za_cons (z_var 0) (za_cons (z_int) (za_nil)))) (za_nil))) (zg_name 7 sc.nd) gSet_ok (zs_end [7] (zs_one (z_set 8 sc.nd (z_add rfl (z_var 8) (z_ix rfl (z_var 2) (z_call T_law_draw hr tk (by rfl) m_law_draw (za_cons (z_var 0) (za_cons (z_int) (za_nil)))))))))) (zs_cons (z_set 9 sc.nd (z_lstO (za_nil))) (zs_cons (z_for po rfl (zi_range1 (by rfl) T.n_range (za_cons (z_var 1) (za_nil))) (zg_name 7 sc.nd) gSet_ok (zs_end [7, 10] (zs_cons (z_set 10 sc.nd (z_add rfl (z_add rfl (z_var 6) (z_ix rfl (z_var 2) (z_mod (zc_int rfl T.n_int (za_cons (z_add rfl (z_var 4) (z_mul (z_var 5) (z_var 7))) (za_nil))) (z_int)))) (z_var 8))) (zs_cons (z_ifs (zt_eq rfl hr (z_var 3) (z_int)) (zs_one (z_set 10 sc.nd (z_add rfl (z_var 10) (z_mul (z_ix rfl (z_var 2) (z_var 7)) (z_mod (z_var 7) (z_int)))))) (zs_nil)) (zs_one (z_expr (z_append rfl (z_var 9) (za_cons (z_var 10) (za_nil))))))))) (zs_frz 9 (zs_one (z_ret (z_var 9)))))))))))))))
theorem sc_Formulas_init : FnScope ["self", "number"] ["self", "number"] (defScope s_Formulas_init) := ⟨rfl, rfl, rfl, by decide +kernel, rfl, by decide +kernel, by decide +kernel⟩
theorem ok_Formulas_init {P : Program} {g : G} {mg : Str → Option Value} {base : Heap} {k : Nat} {f : Addr} {fd : FuncData} (F : FunD g.K "__init__" "Formulas.__init__" (defArgs s_Formulas_init) (defBody s_Formulas_init) (defScope s_Formulas_init) [] [] f fd) (T : Txt g mg)  :
   FnOk P g.w g.K mg base (L2.CX P g.w) (k + 1) f fd ["self", "number"] (lowF g M_Formulas_init) := by
 refine fun_ok F sc_Formulas_init fun F cdv A outer s H E hr => ?_
 have tk := takesF (P := P) (w := g.w) (K := g.K) (mg := mg) (base := base) (N := ["self", "number"]) (qual := "Formulas.__init__") (sc := defScope s_Formulas_init) (f := f) (cdv := cdv) (A := A) (outer := outer) (s := s) (H := H) (E := E)
 have po : PassesOwn _ _ _ _ := passes_of (X := cxOf (L2.CX P g.w) P g.w g.K mg base ["self", "number"] "Formulas.__init__" (defScope s_Formulas_init) f cdv A outer s H E) rfl
 have sc := sc_Formulas_init
 exact zs_end _ (zs_cons (z_setfld f_starts T.cls rfl (z_var 0) (z_var 1)) (zs_one (z_setfld f_numbers T.cls rfl (z_var 0) (z_dit0 rfl))))
theorem sc_law_due : FnScope ["_law_starts", "_law_rows", "_law_function", "_law_args", "_law_number", "_law_row"] ["_law_starts", "_law_rows", "_law_function", "_law_args"] (defScope s_law_due) := ⟨rfl, rfl, rfl, by decide +kernel, rfl, by decide +kernel, by decide +kernel⟩
theorem ok_law_due {P : Program} {g : G} {mg : Str → Option Value} {base : Heap} {k : Nat} {f : Addr} {fd : FuncData} (F : FunD g.K "_law_due" "_law_due" (defArgs s_law_due) (defBody s_law_due) (defScope s_law_due) [] [] f fd) (T : Txt g mg)  :
   FnOk P g.w g.K mg base (L2.CX P g.w) (k + 9 + 1) f fd ["_law_starts", "_law_rows", "_law_function", "_law_args"] (lowF g M_law_due) := by
 refine fun_ok F sc_law_due fun F cdv A outer s H E hr => ?_
 have tk := takesF (P := P) (w := g.w) (K := g.K) (mg := mg) (base := base) (N := ["_law_starts", "_law_rows", "_law_function", "_law_args", "_law_number", "_law_row"]) (qual := "_law_due") (sc := defScope s_law_due) (f := f) (cdv := cdv) (A := A) (outer := outer) (s := s) (H := H) (E := E)
 have po : PassesOwn _ _ _ _ := passes_of (X := cxOf (L2.CX P g.w) P g.w g.K mg base ["_law_starts", "_law_rows", "_law_function", "_law_args", "_law_number", "_law_row"] "_law_due" (defScope s_law_due) f cdv A outer s H E) rfl
 have sc := sc_law_due
 exact zs_end _ (zs_cons (z_for po rfl (zi_any rfl (z_var 3)) (zg_name 4 sc.nd) gSet_ok (zs_end [4] (zs_one (z_ifs (zt_w (zw_or (zt_lt  (z_var 4) (z_int)) (zw_or1 (zt_ge  (z_var 4) (z_add rfl (z_var 0) (zc_len rfl T.n_len (za_cons (z_var 1) (za_nil)))))))) (zs_one (z_ret (z_tup (za_cons (z_str [117, 110, 107, 110, 111, 119, 110]) (za_cons (z_var 4) (za_nil)))))) (zs_nil))))) (zs_cons (z_set 5 sc.nd (z_tup (za_cons (z_var 2) (za_cons (zc_tuple rfl T.n_tuple (za_cons (z_var 3) (za_nil))) (za_nil))))) (zs_cons (z_ifs (zt_in rfl hr (z_var 5) (z_var 1)) (zs_one (z_ret (z_tup (za_cons (z_str [110, 117, 109, 98, 101, 114]) (za_cons (z_add rfl (z_var 0) (z_lixS hr rfl (z_var 1) (za_cons (z_var 5) (za_nil)))) (za_nil)))))) (zs_nil)) (zs_one (z_ret (z_tup (za_cons (z_str [110, 117, 109, 98, 101, 114]) (za_cons (z_add rfl (z_var 0) (zc_len rfl T.n_len (za_cons (z_var 1) (za_nil)))) (za_nil)))))))))
theorem sc_Formulas_apply : FnScope ["self", "function", "args", "after", "number"] ["self", "function", "args"] (defScope s_Formulas_apply) := ⟨rfl, rfl, rfl, by decide +kernel, rfl, by decide +kernel, by decide +kernel⟩
theorem ok_Formulas_apply {P : Program} {g : G} {mg : Str → Option Value} {base : Heap} {k : Nat} {f : Addr} {fd : FuncData} (F : FunD g.K "apply" "Formulas.apply" (defArgs s_Formulas_apply) (defBody s_Formulas_apply) (defScope s_Formulas_apply) [] [] f fd) (T : Txt g mg) (X_UnknownFormula : ExT P g.w g.K mg base g (k + 8) cUnknownFormula) :
   FnOk P g.w g.K mg base (L2.CX P g.w) (k + 9 + 1) f fd ["self", "function", "args"] (lowF g M_Formulas_apply) := by
 refine fun_ok F sc_Formulas_apply fun F cdv A outer s H E hr => ?_
 have tk := takesF (P := P) (w := g.w) (K := g.K) (mg := mg) (base := base) (N := ["self", "function", "args", "after", "number"]) (qual := "Formulas.apply") (sc := defScope s_Formulas_apply) (f := f) (cdv := cdv) (A := A) (outer := outer) (s := s) (H := H) (E := E)
 have po : PassesOwn _ _ _ _ := passes_of (X := cxOf (L2.CX P g.w) P g.w g.K mg base ["self", "function", "args", "after", "number"] "Formulas.apply" (defScope s_Formulas_apply) f cdv A outer s H E) rfl
 have sc := sc_Formulas_apply
 exact zs_end _ (zs_cons (z_set 3 sc.nd (z_add rfl (z_fld f_starts T.cls rfl (z_var 0)) (zc_lenD rfl T.n_len (za_cons (z_fld f_numbers T.cls rfl (z_var 0)) (za_nil))))) (zs_cons (z_for po rfl (zi_any rfl (z_var 2)) (zg_name 4 sc.nd) gSet_ok (zs_end [4] (zs_one (z_ifs (zt_not (zt_leLt (z_int) (z_var 4) (z_var 3))) (zs_one (z_raiseX cUnknownFormula rfl X_UnknownFormula rfl hr tk (by rfl) T.g_UnknownFormula (za_cons (z_var 4) (za_nil)))) (zs_nil))))) (zs_one (z_ret (z_nsetd rfl hr (z_fld f_numbers T.cls rfl (z_var 0)) (z_tup (za_cons (z_var 1) (za_cons (zc_tuple rfl T.n_tuple (za_cons (z_var 2) (za_nil))) (za_nil)))) (z_var 3) m2_ok)))))
theorem sc_Formulas_call : FnScope ["self", "function", "args"] ["self", "function", "args"] (defScope s_Formulas_call) := ⟨rfl, rfl, rfl, by decide +kernel, rfl, by decide +kernel, by decide +kernel⟩
theorem ok_Formulas_call {P : Program} {g : G} {mg : Str → Option Value} {base : Heap} {k : Nat} {f : Addr} {fd : FuncData} (F : FunD g.K "__call__" "Formulas.__call__" (defArgs s_Formulas_call) (defBody s_Formulas_call) (defScope s_Formulas_call) [] [] f fd) (T : Txt g mg) (E_mtSelfFormulas_apply : MethE P g.w g.K mg base g (k) "apply" mtSelfFormulas_apply) :
   FnOk P g.w g.K mg base (L2.CX P g.w) (k + 1) f fd ["self", "function", "args"] (lowF g M_Formulas_call) := by
 refine fun_ok F sc_Formulas_call fun F cdv A outer s H E hr => ?_
 have tk := takesF (P := P) (w := g.w) (K := g.K) (mg := mg) (base := base) (N := ["self", "function", "args"]) (qual := "Formulas.__call__") (sc := defScope s_Formulas_call) (f := f) (cdv := cdv) (A := A) (outer := outer) (s := s) (H := H) (E := E)
 have po : PassesOwn _ _ _ _ := passes_of (X := cxOf (L2.CX P g.w) P g.w g.K mg base ["self", "function", "args"] "Formulas.__call__" (defScope s_Formulas_call) f cdv A outer s H E) rfl
 have sc := sc_Formulas_call
 exact zs_end _ (zs_one (z_ret (z_methD T.cls rfl E_mtSelfFormulas_apply hr tk (z_var 0) (za_cons (z_var 1) (za_cons (z_var 2) (za_nil))))))
theorem sc_law_called : FnScope ["_law_formulas", "_law_function", "_law_args", "e"] ["_law_formulas", "_law_function", "_law_args"] (defScope s_law_called) := ⟨rfl, rfl, rfl, by decide +kernel, rfl, by decide +kernel, by decide +kernel⟩
theorem ok_law_called {P : Program} {g : G} {mg : Str → Option Value} {base : Heap} {k : Nat} {f : Addr} {fd : FuncData} (F : FunD g.K "_law_called" "_law_called" (defArgs s_law_called) (defBody s_law_called) (defScope s_law_called) [] [] f fd) (T : Txt g mg) (O_call : OpE P g.w g.K mg base g (k) "__call__" mtO_callFormulas) :
   FnOk P g.w g.K mg base (L2.CX P g.w) (k + 1 + 1) f fd ["_law_formulas", "_law_function", "_law_args"] (lowF g M_law_called) := by
 refine fun_ok F sc_law_called fun F cdv A outer s H E hr => ?_
 have tk := takesF (P := P) (w := g.w) (K := g.K) (mg := mg) (base := base) (N := ["_law_formulas", "_law_function", "_law_args", "e"]) (qual := "_law_called") (sc := defScope s_law_called) (f := f) (cdv := cdv) (A := A) (outer := outer) (s := s) (H := H) (E := E)
 have po : PassesOwn _ _ _ _ := passes_of (X := cxOf (L2.CX P g.w) P g.w g.K mg base ["_law_formulas", "_law_function", "_law_args", "e"] "_law_called" (defScope s_law_called) f cdv A outer s H E) rfl
 have sc := sc_law_called
 exact zs_end _ (zs_one (z_tryAsX 3 rfl rfl sc.nd ⟨by rfl, by decide, .inl T.g_UnknownFormula⟩ tk (T.hit_UnknownFormula) (fun W pn xe tk po => zs_one (z_ret (z_tup (za_cons (z_str [110, 117, 109, 98, 101, 114]) (za_cons (z_callI T.cls rfl O_call hr tk (z_var 0) (za_cons (z_var 1) (za_cons (z_var 2) (za_nil)))) (za_nil)))))) (fun F2 a oe cls d pn x rx ht hz hf => zs_cons (z_ifs (zt_w (zw_or (zt_not (zt_truth rfl (z_isX rx (T.excC _ rx.2.1) hz hf (T.isx_ok _ cWeaveError rx.2.1 T.hx_WeaveError) (fun u r => r) (by rfl) T.n_isinstance (v := .ref (g.cad cWeaveError)) (pe_glob (by rfl) T.g_WeaveError (show RelV (.ref _) _ from rfl)) (z_var 3)))) (zw_or1 (zt_not (zt_truth rfl (z_isX rx (T.excC _ rx.2.1) hz hf (fun b hb => by cases hb; exact T.isVE _ rx.2.1) (fun u r => r) (by rfl) T.n_isinstance (v := .ty "ValueError") (cv := .type "ValueError") (pe_tyN (by rfl) T.n_ValueError) (z_var 3))))))) (zs_one (z_ret (z_tup (za_cons (z_str [111, 100, 100]) (za_cons (z_int) (za_nil)))))) (zs_nil)) (zs_one (z_ret (z_tup (za_cons (z_str [117, 110, 107, 110, 111, 119, 110]) (za_cons (z_fldX f_number rx (xfc_of (T.excC _ rx.2.1)) hz hf (T.noX_number _ rx.2.1) (z_var 3)) (za_nil)))))))))
theorem sc_law_is_number : FnScope ["_law_actual"] ["_law_actual"] (defScope s_law_is_number) := ⟨rfl, rfl, rfl, by decide +kernel, rfl, by decide +kernel, by decide +kernel⟩
theorem ok_law_is_number {P : Program} {g : G} {mg : Str → Option Value} {base : Heap} {k : Nat} {f : Addr} {fd : FuncData} (F : FunD g.K "_law_is_number" "_law_is_number" (defArgs s_law_is_number) (defBody s_law_is_number) (defScope s_law_is_number) [] [] f fd) (T : Txt g mg)  :
   FnOk P g.w g.K mg base (L2.CX P g.w) (k + 1) f fd ["_law_actual"] (lowF g M_law_is_number) := by
 refine fun_ok F sc_law_is_number fun F cdv A outer s H E hr => ?_
 have tk := takesF (P := P) (w := g.w) (K := g.K) (mg := mg) (base := base) (N := ["_law_actual"]) (qual := "_law_is_number") (sc := defScope s_law_is_number) (f := f) (cdv := cdv) (A := A) (outer := outer) (s := s) (H := H) (E := E)
 have po : PassesOwn _ _ _ _ := passes_of (X := cxOf (L2.CX P g.w) P g.w g.K mg base ["_law_actual"] "_law_is_number" (defScope s_law_is_number) f cdv A outer s H E) rfl
 have sc := sc_law_is_number
 exact zs_end _ (zs_one (z_ret (z_and (z_isi .int rfl (by rfl) T.n_isinstance (pe_tyN (by rfl) T.n_int) (z_var 0)) (z_one (z_not (z_isi .bl rfl (by rfl) T.n_isinstance (pe_tyN (by rfl) T.n_bool) (z_var 0)))))))
theorem sc_Formulas_rows : FnScope ["self"] ["self"] (defScope s_Formulas_rows) := ⟨rfl, rfl, rfl, by decide +kernel, rfl, by decide +kernel, by decide +kernel⟩
theorem ok_Formulas_rows {P : Program} {g : G} {mg : Str → Option Value} {base : Heap} {k : Nat} {f : Addr} {fd : FuncData} (F : FunD g.K "rows" "Formulas.rows" (defArgs s_Formulas_rows) (defBody s_Formulas_rows) (defScope s_Formulas_rows) [] [] f fd) (T : Txt g mg)  :
   FnOk P g.w g.K mg base (L2.CX P g.w) (k + 1) f fd ["self"] (lowF g M_Formulas_rows) := by
 refine fun_ok F sc_Formulas_rows fun F cdv A outer s H E hr => ?_
 have tk := takesF (P := P) (w := g.w) (K := g.K) (mg := mg) (base := base) (N := ["self"]) (qual := "Formulas.rows") (sc := defScope s_Formulas_rows) (f := f) (cdv := cdv) (A := A) (outer := outer) (s := s) (H := H) (E := E)
 have po : PassesOwn _ _ _ _ := passes_of (X := cxOf (L2.CX P g.w) P g.w g.K mg base ["self"] "Formulas.rows" (defScope s_Formulas_rows) f cdv A outer s H E) rfl
 have sc := sc_Formulas_rows
 exact zs_end _ (zs_one (z_ret (zc_listD true rfl rfl T.n_list (za_cons (z_fld f_numbers T.cls rfl (z_var 0)) (za_nil)))))
theorem sc_law_same : FnScope ["_law_actual", "_law_due_here", "_law_k"] ["_law_actual", "_law_due_here"] (defScope s_law_same) := ⟨rfl, rfl, rfl, by decide +kernel, rfl, by decide +kernel, by decide +kernel⟩
theorem ok_law_same {P : Program} {g : G} {mg : Str → Option Value} {base : Heap} {k : Nat} {f : Addr} {fd : FuncData} (F : FunD g.K "_law_same" "_law_same" (defArgs s_law_same) (defBody s_law_same) (defScope s_law_same) [] [] f fd) (T : Txt g mg) (C_law_is_number : Cal P g.w g mg base (k) "_law_is_number" ["_law_actual"] M_law_is_number) :
   FnOk P g.w g.K mg base (L2.CX P g.w) (k + 1) f fd ["_law_actual", "_law_due_here"] (lowF g M_law_same) := by
 obtain ⟨f_law_is_number, fd_law_is_number, m_law_is_number, T_law_is_number⟩ := C_law_is_number
 refine fun_ok F sc_law_same fun F cdv A outer s H E hr => ?_
 have tk := takesF (P := P) (w := g.w) (K := g.K) (mg := mg) (base := base) (N := ["_law_actual", "_law_due_here", "_law_k"]) (qual := "_law_same") (sc := defScope s_law_same) (f := f) (cdv := cdv) (A := A) (outer := outer) (s := s) (H := H) (E := E)
 have po : PassesOwn _ _ _ _ := passes_of (X := cxOf (L2.CX P g.w) P g.w g.K mg base ["_law_actual", "_law_due_here", "_law_k"] "_law_same" (defScope s_law_same) f cdv A outer s H E) rfl
 have sc := sc_law_same
 exact zs_end _ (zs_cons (z_ifs (zt_w (zw_or (zt_not (zt_truth rfl (z_isi .tup rfl (by rfl) T.n_isinstance (pe_tyN (by rfl) T.n_tuple) (z_var 0)))) (zw_or1 (zt_ne rfl hr (zc_len rfl T.n_len (za_cons (z_var 0) (za_nil))) (zc_len rfl T.n_len (za_cons (z_var 1) (za_nil))))))) (zs_one (z_ret (z_bl))) (zs_nil)) (zs_cons (z_for po rfl (zi_range1 (by rfl) T.n_range (za_cons (zc_len rfl T.n_len (za_cons (z_var 1) (za_nil))) (za_nil))) (zg_name 2 sc.nd) gSet_ok (zs_end [2] (zs_one (z_ifs (zt_w (zw_or (zt_not (zt_truth rfl (z_call T_law_is_number hr tk (by rfl) m_law_is_number (za_cons (z_ix rfl (z_var 0) (z_var 2)) (za_nil))))) (zw_or1 (zt_ne rfl hr (z_ix rfl (z_var 0) (z_var 2)) (z_ix rfl (z_var 1) (z_var 2)))))) (zs_one (z_ret (z_bl))) (zs_nil))))) (zs_one (z_ret (z_bl)))))
theorem sc_law_same_rows : FnScope ["_law_actual", "_law_due_here", "_law_k"] ["_law_actual", "_law_due_here"] (defScope s_law_same_rows) := ⟨rfl, rfl, rfl, by decide +kernel, rfl, by decide +kernel, by decide +kernel⟩
theorem ok_law_same_rows {P : Program} {g : G} {mg : Str → Option Value} {base : Heap} {k : Nat} {f : Addr} {fd : FuncData} (F : FunD g.K "_law_same_rows" "_law_same_rows" (defArgs s_law_same_rows) (defBody s_law_same_rows) (defScope s_law_same_rows) [] [] f fd) (T : Txt g mg) (C_law_same : Cal P g.w g mg base (k) "_law_same" ["_law_actual", "_law_due_here"] M_law_same) :
   FnOk P g.w g.K mg base (L2.CX P g.w) (k + 1) f fd ["_law_actual", "_law_due_here"] (lowF g M_law_same_rows) := by
 obtain ⟨f_law_same, fd_law_same, m_law_same, T_law_same⟩ := C_law_same
 refine fun_ok F sc_law_same_rows fun F cdv A outer s H E hr => ?_
 have tk := takesF (P := P) (w := g.w) (K := g.K) (mg := mg) (base := base) (N := ["_law_actual", "_law_due_here", "_law_k"]) (qual := "_law_same_rows") (sc := defScope s_law_same_rows) (f := f) (cdv := cdv) (A := A) (outer := outer) (s := s) (H := H) (E := E)
 have po : PassesOwn _ _ _ _ := passes_of (X := cxOf (L2.CX P g.w) P g.w g.K mg base ["_law_actual", "_law_due_here", "_law_k"] "_law_same_rows" (defScope s_law_same_rows) f cdv A outer s H E) rfl
 have sc := sc_law_same_rows
 exact zs_end _ (zs_cons (z_ifs (zt_w (zw_or (zt_not (zt_truth rfl (z_isi .lst rfl (by rfl) T.n_isinstance (pe_tyN (by rfl) T.n_list) (z_var 0)))) (zw_or1 (zt_ne rfl hr (zc_len rfl T.n_len (za_cons (z_var 0) (za_nil))) (zc_len rfl T.n_len (za_cons (z_var 1) (za_nil))))))) (zs_one (z_ret (z_bl))) (zs_nil)) (zs_cons (z_for po rfl (zi_range1 (by rfl) T.n_range (za_cons (zc_len rfl T.n_len (za_cons (z_var 1) (za_nil))) (za_nil))) (zg_name 2 sc.nd) gSet_ok (zs_end [2] (zs_cons (z_ifs (zt_w (zw_or (zt_not (zt_truth rfl (z_isi .tup rfl (by rfl) T.n_isinstance (pe_tyN (by rfl) T.n_tuple) (z_ix rfl (z_var 0) (z_var 2))))) (zw_or1 (zt_ne rfl hr (zc_len rfl T.n_len (za_cons (z_ix rfl (z_var 0) (z_var 2)) (za_nil))) (z_int))))) (zs_one (z_ret (z_bl))) (zs_nil)) (zs_cons (z_ifs (zt_w (zw_or (zt_not (zt_truth rfl (z_isi .str rfl (by rfl) T.n_isinstance (pe_tyN (by rfl) T.n_str) (z_ix rfl (z_ix rfl (z_var 0) (z_var 2)) (z_int))))) (zw_or1 (zt_ne rfl hr (z_ix rfl (z_ix rfl (z_var 0) (z_var 2)) (z_int)) (z_ix rfl (z_ix rfl (z_var 1) (z_var 2)) (z_int)))))) (zs_one (z_ret (z_bl))) (zs_nil)) (zs_one (z_ifs (zt_not (zt_truth rfl (z_call T_law_same hr tk (by rfl) m_law_same (za_cons (z_ix rfl (z_ix rfl (z_var 0) (z_var 2)) (z_int)) (za_cons (z_ix rfl (z_ix rfl (z_var 1) (z_var 2)) (z_int)) (za_nil)))))) (zs_one (z_ret (z_bl))) (zs_nil))))))) (zs_one (z_ret (z_bl)))))
theorem sc_law : FnScope ["_law_script", "_law_pool_here", "_law_names_here", "_law_starts", "_law_tables", "_law_rows", "_law_k", "_law_which", "_law_function", "_law_many", "_law_args", "_law_j", "_law_number", "_law_due_here", "_law_passed", "_law_told", "_law_found"] ["_law_script"] (defScope s_law) := ⟨rfl, rfl, rfl, by decide +kernel, rfl, by decide +kernel, by decide +kernel⟩
theorem ok_law {P : Program} {g : G} {mg : Str → Option Value} {base : Heap} {k : Nat} {f : Addr} {fd : FuncData} (F : FunD g.K "law" "law" (defArgs s_law) (defBody s_law) (defScope s_law) [] [] f fd) (T : Txt g mg) (C_law_pool : Cal P g.w g mg base (k + 1) "_law_pool" ["_law_script"] M_law_pool) (C_law_names : Cal P g.w g mg base (k + 1) "_law_names" ["_law_pool_here", "_law_count"] M_law_names) (C_law_draw : Cal P g.w g mg base (k + 1) "_law_draw" ["_law_pool_here", "_law_many"] M_law_draw) (C_Formulas_init : CalMk P g.w g mg base (k) cFormulas ["self", "number"] M_Formulas_init) (C_law_due : Cal P g.w g mg base (k + 1) "_law_due" ["_law_starts", "_law_rows", "_law_function", "_law_args"] M_law_due) (C_law_called : Cal P g.w g mg base (k + 1) "_law_called" ["_law_formulas", "_law_function", "_law_args"] M_law_called) (C_law_is_number : Cal P g.w g mg base (k + 1) "_law_is_number" ["_law_actual"] M_law_is_number) (C_law_same_rows : Cal P g.w g mg base (k + 1) "_law_same_rows" ["_law_actual", "_law_due_here"] M_law_same_rows) (E_mtFormulas_rows : MethE P g.w g.K mg base g (k + 1) "rows" mtFormulas_rows) :
   FnOk P g.w g.K mg base (L2.CX P g.w) (k + 1 + 1) f fd ["_law_script"] (lowF g M_law) := by
 obtain ⟨f_law_pool, fd_law_pool, m_law_pool, T_law_pool⟩ := C_law_pool
 obtain ⟨f_law_names, fd_law_names, m_law_names, T_law_names⟩ := C_law_names
 obtain ⟨f_law_draw, fd_law_draw, m_law_draw, T_law_draw⟩ := C_law_draw
 obtain ⟨f_Formulas_init, fd_Formulas_init, C_mk_Formulas⟩ := C_Formulas_init
 obtain ⟨f_law_due, fd_law_due, m_law_due, T_law_due⟩ := C_law_due
 obtain ⟨f_law_called, fd_law_called, m_law_called, T_law_called⟩ := C_law_called
 obtain ⟨f_law_is_number, fd_law_is_number, m_law_is_number, T_law_is_number⟩ := C_law_is_number
 obtain ⟨f_law_same_rows, fd_law_same_rows, m_law_same_rows, T_law_same_rows⟩ := C_law_same_rows
 refine fun_ok F sc_law fun F cdv A outer s H E hr => ?_
 have tk := takesF (P := P) (w := g.w) (K := g.K) (mg := mg) (base := base) (N := ["_law_script", "_law_pool_here", "_law_names_here", "_law_starts", "_law_tables", "_law_rows", "_law_k", "_law_which", "_law_function", "_law_many", "_law_args", "_law_j", "_law_number", "_law_due_here", "_law_passed", "_law_told", "_law_found"]) (qual := "law") (sc := defScope s_law) (f := f) (cdv := cdv) (A := A) (outer := outer) (s := s) (H := H) (E := E)
 have po : PassesOwn _ _ _ _ := passes_of (X := cxOf (L2.CX P g.w) P g.w g.K mg base ["_law_script", "_law_pool_here", "_law_names_here", "_law_starts", "_law_tables", "_law_rows", "_law_k", "_law_which", "_law_function", "_law_many", "_law_args", "_law_j", "_law_number", "_law_due_here", "_law_passed", "_law_told", "_law_found"] "law" (defScope s_law) f cdv A outer s H E) rfl
 have sc := sc_law
 exact zs_end _ (zs_cons (z_set 1 sc.nd (z_call T_law_pool hr tk (by rfl) m_law_pool (za_cons (z_var 0) (za_nil)))) (zs_cons (z_set 2 sc.nd (z_call T_law_names hr tk (by rfl) m_law_names (za_cons (z_var 1) (za_cons (z_ix rfl (z_lst (za_cons (z_int) (za_cons (z_int) (za_cons (z_int) (za_nil))))) (z_call T_law_draw hr tk (by rfl) m_law_draw (za_cons (z_var 1) (za_cons (z_int) (za_nil))))) (za_nil))))) (zs_cons (z_set 3 sc.nd (z_lst (za_cons (z_ix rfl (z_lst (za_cons (z_int) (za_cons (z_int) (za_cons (z_int) (za_nil))))) (z_call T_law_draw hr tk (by rfl) m_law_draw (za_cons (z_var 1) (za_cons (z_int) (za_nil))))) (za_cons (z_ix rfl (z_lst (za_cons (z_int) (za_cons (z_int) (za_cons (z_int) (za_nil))))) (z_call T_law_draw hr tk (by rfl) m_law_draw (za_cons (z_var 1) (za_cons (z_int) (za_nil))))) (za_nil))))) (zs_cons (z_set 4 sc.nd (z_lstZ (za_cons (z_make true cFormulas rfl rfl T.has_Formulas C_mk_Formulas hr tk (by rfl) T.g_Formulas (za_cons (z_ix rfl (z_var 3) (z_int)) (za_nil))) (za_cons (z_make true cFormulas rfl rfl T.has_Formulas C_mk_Formulas hr tk (by rfl) T.g_Formulas (za_cons (z_ix rfl (z_var 3) (z_int)) (za_nil))) (za_nil))))) (zs_cons (z_set 5 sc.nd (z_lstZ (za_cons (z_lstO (za_nil)) (za_cons (z_lstO (za_nil)) (za_nil))))) (zs_cons (z_for po rfl (zi_range1 (by rfl) T.n_range (za_cons (z_int) (za_nil))) (zg_name 6 sc.nd) gSet_ok (zs_end [6, 7, 8, 9, 10, 11, 12, 13, 14, 15, 16] (zs_cons (z_set 7 sc.nd (zc_int rfl T.n_int (za_cons (z_eq rfl hr (z_mod (z_var 6) (z_int)) (z_int)) (za_nil)))) (zs_cons (z_set 8 sc.nd (z_ix rfl (z_var 2) (z_call T_law_draw hr tk (by rfl) m_law_draw (za_cons (z_var 1) (za_cons (zc_len rfl T.n_len (za_cons (z_var 2) (za_nil))) (za_nil)))))) (zs_cons (z_set 9 sc.nd (z_add rfl (z_ix rfl (z_var 3) (z_var 7)) (zc_len rfl T.n_len (za_cons (z_ix rfl (z_var 5) (z_var 7)) (za_nil))))) (zs_cons (z_set 10 sc.nd (z_lstO (za_nil))) (zs_cons (z_for po rfl (zi_range1 (by rfl) T.n_range (za_cons (z_ix rfl (z_lst (za_cons (z_int) (za_cons (z_int) (za_cons (z_int) (za_cons (z_int) (za_nil)))))) (z_call T_law_draw hr tk (by rfl) m_law_draw (za_cons (z_var 1) (za_cons (z_int) (za_nil))))) (za_nil))) (zg_name 11 sc.nd) gSet_ok (zs_end [11, 12] (zs_cons (z_set 12 sc.nd (z_mod (zc_int rfl T.n_int (za_cons (z_add rfl (z_call T_law_draw hr tk (by rfl) m_law_draw (za_cons (z_var 1) (za_cons (z_int) (za_nil)))) (z_div (z_var 6) (z_int))) (za_nil))) (z_var 9))) (zs_cons (z_ifs (zt_eq rfl hr (z_call T_law_draw hr tk (by rfl) m_law_draw (za_cons (z_var 1) (za_cons (z_int) (za_nil)))) (z_int)) (zs_one (z_set 12 sc.nd (z_ix rfl (z_lst (za_cons (z_var 9) (za_cons (z_neg) (za_cons (z_add rfl (z_var 9) (z_int)) (za_cons (z_sub (z_int) (z_var 9)) (za_nil)))))) (z_call T_law_draw hr tk (by rfl) m_law_draw (za_cons (z_var 1) (za_cons (z_int) (za_nil))))))) (zs_nil)) (zs_one (z_expr (z_append rfl (z_var 10) (za_cons (z_var 12) (za_nil))))))))) (zs_cons (z_set 13 sc.nd (z_call T_law_due hr tk (by rfl) m_law_due (za_cons (z_ix rfl (z_var 3) (z_var 7)) (za_cons (z_ix rfl (z_var 5) (z_var 7)) (za_cons (z_var 8) (za_cons (z_var 10) (za_nil))))))) (zs_cons (z_set 14 sc.nd (zc_list true rfl T.n_list (za_cons (z_var 10) (za_nil)))) (zs_cons (z_set 15 sc.nd (z_call T_law_called hr tk (by rfl) m_law_called (za_cons (z_ix rfl (z_var 4) (z_var 7)) (za_cons (z_var 8) (za_cons (z_var 14) (za_nil)))))) (zs_cons (z_ifs (zt_w (zw_or (zt_ne rfl hr (z_var 15) (z_var 13)) (zw_or (zt_not (zt_truth rfl (z_call T_law_is_number hr tk (by rfl) m_law_is_number (za_cons (z_ix rfl (z_var 15) (z_int)) (za_nil))))) (zw_or1 (zt_ne rfl hr (z_var 14) (z_var 10)))))) (zs_one (z_ret (z_bl))) (zs_nil)) (zs_cons (z_expr (z_append rfl (z_var 14) (za_cons (z_int) (za_nil)))) (zs_cons (z_ifs (zt_eq rfl hr (z_ix rfl (z_var 13) (z_int)) (z_str [110, 117, 109, 98, 101, 114])) (zs_cons (z_ifs (zt_eq rfl hr (z_ix rfl (z_var 13) (z_int)) (z_var 9)) (zs_one (z_expr (z_append rfl (z_ix rfl (z_var 5) (z_var 7)) (za_cons (z_tup (za_cons (z_var 8) (za_cons (zc_tuple rfl T.n_tuple (za_cons (z_var 10) (za_nil))) (za_nil)))) (za_nil))))) (zs_nil)) (zs_one (z_ifs (zt_ne rfl hr (z_call T_law_called hr tk (by rfl) m_law_called (za_cons (z_ix rfl (z_var 4) (z_var 7)) (za_cons (z_var 8) (za_cons (zc_tuple rfl T.n_tuple (za_cons (z_var 10) (za_nil))) (za_nil))))) (z_var 13)) (zs_one (z_ret (z_bl))) (zs_nil)))) (zs_nil)) (zs_cons (z_set 16 sc.nd (z_methD0 T.cls rfl E_mtFormulas_rows hr tk (z_ix rfl (z_var 4) (z_var 7)))) (zs_cons (z_ifs (zt_not (zt_truth rfl (z_call T_law_same_rows hr tk (by rfl) m_law_same_rows (za_cons (z_var 16) (za_cons (z_ix rfl (z_var 5) (z_var 7)) (za_nil)))))) (zs_one (z_ret (z_bl))) (zs_nil)) (zs_cons (z_expr (z_append rfl (z_var 16) (za_cons (z_tup (za_cons (z_str [97]) (za_cons (z_tup (za_nil)) (za_nil)))) (za_nil)))) (zs_one (z_ifs (zt_not (zt_truth rfl (z_call T_law_same_rows hr tk (by rfl) m_law_same_rows (za_cons (z_methD0 T.cls rfl E_mtFormulas_rows hr tk (z_ix rfl (z_var 4) (z_sub (z_int) (z_var 7)))) (za_cons (z_ix rfl (z_var 5) (z_sub (z_int) (z_var 7))) (za_nil)))))) (zs_one (z_ret (z_bl))) (zs_nil))))))))))))))))))) (zs_one (z_ret (z_bl)))))))))
end Zl
end
section
namespace Zl
open PySem PySem.Spec PyProof.Rows L2
def hs (c : Nat) : Bool := c == cFormulas
def hx (c : Nat) : Bool := c == cWeaveError || c == cUnknownFormula
theorem txt {w : World} {K : PySem.W.Frag} {h : Heap} {mg : Str → Option Value} (X : K.In h) (G : h.Ns mainGlobals mg) (c : SaysS fa exs fn st su K) : Txt (gOf hs hx K w) mg where
 n_ValueError := He.free_ok X G (c.fact 0 (f := .free "ValueError") rfl)
 n_abs := He.free_ok X G (c.fact 1 (f := .free "abs") rfl)
 n_bool := He.free_ok X G (c.fact 2 (f := .free "bool") rfl)
 n_int := He.free_ok X G (c.fact 3 (f := .free "int") rfl)
 n_isinstance := He.free_ok X G (c.fact 4 (f := .free "isinstance") rfl)
 n_len := He.free_ok X G (c.fact 5 (f := .free "len") rfl)
 n_list := He.free_ok X G (c.fact 6 (f := .free "list") rfl)
 n_range := He.free_ok X G (c.fact 7 (f := .free "range") rfl)
 n_str := He.free_ok X G (c.fact 8 (f := .free "str") rfl)
 n_tuple := He.free_ok X G (c.fact 9 (f := .free "tuple") rfl)
 cls := by
   constructor
   · intro c0 h
     have h : hs c0 = true := h; unfold hs at h; simp only [Bool.or_eq_true, beq_iff_eq] at h; rcases h with h
     · subst h; exact He.cls_ok (c.fact 10 (f := .cls "Formulas") rfl)
   · intro c0 f h hf
     have h : hs c0 = true := h; unfold hs at h; simp only [Bool.or_eq_true, beq_iff_eq] at h; rcases h with h
     · subst h
       have hf : f ∈ [f_starts, f_numbers] := hf
       simp only [List.mem_cons, List.not_mem_nil, or_false] at hf
       rcases hf with hf | hf
       · subst hf; exact He.noat_ok (c.fact 11 (f := .noat "Formulas" "starts") rfl)
       · subst hf; exact He.noat_ok (c.fact 12 (f := .noat "Formulas" "numbers") rfl)
 excC := by
   intro c0 h
   have h : hx c0 = true := h; unfold hx at h; simp only [Bool.or_eq_true, beq_iff_eq] at h; rcases h with (h | h)
   · subst h; exact xExcC_ok (c.xs 0 (f := xExcC "WeaveError") rfl)
   · subst h; exact xExcC_ok (c.xs 1 (f := xExcC "UnknownFormula") rfl)
 isx_ok := by
   intro c0 c1 h h2 bb hb
   have h : hx c0 = true := h; have h2 : hx c1 = true := h2; unfold hx at h h2; simp only [Bool.or_eq_true, beq_iff_eq] at h h2; rcases h with (h | h) <;> rcases h2 with (h2 | h2)
   · subst h; subst h2; have e : isx cWeaveError cWeaveError = some true := by decide
     rw [e] at hb; cases hb; exact xKit_ok (c.xs 2 (f := xKit "WeaveError" "WeaveError" true) rfl)
   · subst h; subst h2; have e : isx cWeaveError cUnknownFormula = some false := by decide
     rw [e] at hb; cases hb; exact xKit_ok (c.xs 3 (f := xKit "WeaveError" "UnknownFormula" false) rfl)
   · subst h; subst h2; have e : isx cUnknownFormula cWeaveError = some true := by decide
     rw [e] at hb; cases hb; exact xKit_ok (c.xs 4 (f := xKit "UnknownFormula" "WeaveError" true) rfl)
   · subst h; subst h2; have e : isx cUnknownFormula cUnknownFormula = some true := by decide
     rw [e] at hb; cases hb; exact xKit_ok (c.xs 5 (f := xKit "UnknownFormula" "UnknownFormula" true) rfl)
 isVE := by
   intro c0 h
   have h : hx c0 = true := h; unfold hx at h; simp only [Bool.or_eq_true, beq_iff_eq] at h; rcases h with (h | h)
   · subst h; exact xKitT_ok (c.xs 6 (f := xKitT "WeaveError" "ValueError" true) rfl)
   · subst h; exact xKitT_ok (c.xs 7 (f := xKitT "UnknownFormula" "ValueError" true) rfl)
 g_Formulas := He.glo_ok X G (c.fact 13 (f := .glo "Formulas") rfl)
 g_UnknownFormula := He.glo_ok X G (c.fact 14 (f := .glo "UnknownFormula") rfl)
 g_WeaveError := He.glo_ok X G (c.fact 15 (f := .glo "WeaveError") rfl)
 has_Formulas := rfl
 hit_UnknownFormula := by
   intro c0 bb h hb
   have h : hx c0 = true := h; unfold hx at h; simp only [Bool.or_eq_true, beq_iff_eq] at h; rcases h with (h | h)
   · subst h; have e : hit_c cUnknownFormula cWeaveError = some false := by decide
     rw [e] at hb; cases hb; exact He.exm_ok (c.fact 16 (f := .exm "WeaveError" "UnknownFormula" false) rfl)
   · subst h; have e : hit_c cUnknownFormula cUnknownFormula = some true := by decide
     rw [e] at hb; cases hb; exact He.exm_ok (c.fact 17 (f := .exm "UnknownFormula" "UnknownFormula" true) rfl)
 hx_WeaveError := rfl
 noX_number := by
   intro c0 h
   have h : hx c0 = true := h; unfold hx at h; simp only [Bool.or_eq_true, beq_iff_eq] at h; rcases h with (h | h)
   · subst h; exact He.eqO_ok (c.fact 18 (f := .noat "WeaveError" "number") rfl)
   · subst h; exact He.eqO_ok (c.fact 19 (f := .noat "UnknownFormula" "number") rfl)
theorem law_ok {P : Program} {w : World} {K : PySem.W.Frag} {h : Heap} {mg : Str → Option Value} (hTop : (P.main.scope.names.lookup ("super" : Str)).isSome = false) (hFile : P.main.file = PySem.Challenge.pw_untoldrule_k28_formulas_have_numbers.main.file) (X : K.In h) (G : h.Ns mainGlobals mg) (c : SaysS fa exs fn st su K) : ∃ fd, (∀ (s : Shared) (u : Value), BindsTo s fd ⟨[u], []⟩ [("_law_script", u)]) ∧ ∀ base : Heap, FnOk P w K mg base (L2.CX P w) 14 (He.ga K "law") fd ["_law_script"] (lowF (gOf hs hx K w) M_law) := by
 have T := txt (w := w) X G c
 have TT : SupTop P mg := ⟨hTop, He.free_ok X G (c.fact 20 (f := .free "super") rfl)⟩
 obtain ⟨fd_XUnknownFormula, F_XUnknownFormula⟩ := DefC.defS (P := P) (d := d_XUnknownFormula) (c.su_ 0 rfl).1 (c.su_ 0 rfl).2 hFile
 have X0_UnknownFormula : ∀ base : Heap, ExT P w (gOf hs hx K w).K mg base (gOf hs hx K w) 1 cUnknownFormula := fun base => ⟨⟨_, fd_XUnknownFormula, ["self", "number"], (xIni_ok (c.xs 8 (f := xIni "UnknownFormula") rfl)).1, (xIni_ok (c.xs 8 (f := xIni "UnknownFormula") rfl)).2, by
   have e : (clsFlds cUnknownFormula).reverse.map fnm = (["number"] : List Str) := by decide +kernel
   rw [e]
   exact exc_ok1 (f1 := "number") F_XUnknownFormula TT (xSupV_ok (c.xs 9 (f := xSupV "UnknownFormula") rfl)) (He.eqO_ok (c.fact 19 (f := .noat "UnknownFormula" "number") rfl)) rfl ⟨rfl, rfl, rfl, by decide +kernel, rfl, by decide +kernel, by decide +kernel, rfl, by decide +kernel⟩ rfl (.inl rfl) (.inl rfl) ⟨_, rfl, rfl⟩, F_XUnknownFormula.binds fun _ _ _ _ _ _ _ us hl => match us, hl with | [_, _], _ => rfl⟩, (xSupV_ok (c.xs 9 (f := xSupV "UnknownFormula") rfl)).ox, rfl⟩
 obtain ⟨fd_law_mixed, F_law_mixed⟩ := c.def_ 0 (d := d_law_mixed) rfl
 obtain ⟨fd_law_pool, F_law_pool⟩ := c.def_ 1 (d := d_law_pool) rfl
 obtain ⟨fd_law_draw, F_law_draw⟩ := c.def_ 2 (d := d_law_draw) rfl
 obtain ⟨fd_law_names, F_law_names⟩ := c.def_ 3 (d := d_law_names) rfl
 obtain ⟨fd_Formulas_init, F_Formulas_init⟩ := c.def_ 4 (d := d_Formulas_init) rfl
 obtain ⟨fd_law_due, F_law_due⟩ := c.def_ 5 (d := d_law_due) rfl
 obtain ⟨fd_Formulas_apply, F_Formulas_apply⟩ := c.def_ 6 (d := d_Formulas_apply) rfl
 obtain ⟨fd_Formulas_call, F_Formulas_call⟩ := c.def_ 7 (d := d_Formulas_call) rfl
 obtain ⟨fd_law_called, F_law_called⟩ := c.def_ 8 (d := d_law_called) rfl
 obtain ⟨fd_law_is_number, F_law_is_number⟩ := c.def_ 9 (d := d_law_is_number) rfl
 obtain ⟨fd_Formulas_rows, F_Formulas_rows⟩ := c.def_ 10 (d := d_Formulas_rows) rfl
 obtain ⟨fd_law_same, F_law_same⟩ := c.def_ 11 (d := d_law_same) rfl
 obtain ⟨fd_law_same_rows, F_law_same_rows⟩ := c.def_ 12 (d := d_law_same_rows) rfl
 obtain ⟨fd_law, F_law⟩ := c.def_ 13 (d := d_law) rfl
 refine ⟨fd_law, fun s u => (FunD.bindsA (ps := ["_law_script"]) F_law fun _ _ _ _ _ _ us hl => match us, hl with | [_], _ => rfl) s [u] rfl, fun base => ?_⟩
 have X_UnknownFormula := X0_UnknownFormula base
 have K_law_mixed : Cal P w (gOf hs hx K w) mg base 1 "_law_mixed" ["_law_cell", "_law_k"] M_law_mixed := ⟨_, fd_law_mixed, He.glo_ok X G (c.fact 21 (f := .glo "_law_mixed") rfl), ok_law_mixed (k := 0) (g := gOf hs hx K w) F_law_mixed T , F_law_mixed.kp, (F_law_mixed.bindsN fun _ _ _ _ _ _ us hl => match us, hl with | [_, _], _ => rfl)⟩
 have K_law_pool : Cal P w (gOf hs hx K w) mg base 2 "_law_pool" ["_law_script"] M_law_pool := ⟨_, fd_law_pool, He.glo_ok X G (c.fact 22 (f := .glo "_law_pool") rfl), ok_law_pool (k := 1) (g := gOf hs hx K w) F_law_pool T (K_law_mixed.mono (by decide)), F_law_pool.kp, (F_law_pool.bindsN fun _ _ _ _ _ _ us hl => match us, hl with | [_], _ => rfl)⟩
 have K_law_draw : Cal P w (gOf hs hx K w) mg base 1 "_law_draw" ["_law_pool_here", "_law_many"] M_law_draw := ⟨_, fd_law_draw, He.glo_ok X G (c.fact 23 (f := .glo "_law_draw") rfl), ok_law_draw (k := 0) (g := gOf hs hx K w) F_law_draw T , F_law_draw.kp, (F_law_draw.bindsN fun _ _ _ _ _ _ us hl => match us, hl with | [_, _], _ => rfl)⟩
 have K_law_names : Cal P w (gOf hs hx K w) mg base 2 "_law_names" ["_law_pool_here", "_law_count"] M_law_names := ⟨_, fd_law_names, He.glo_ok X G (c.fact 24 (f := .glo "_law_names") rfl), ok_law_names (k := 1) (g := gOf hs hx K w) F_law_names T (K_law_draw.mono (by decide)), F_law_names.kp, (F_law_names.bindsN fun _ _ _ _ _ _ us hl => match us, hl with | [_, _], _ => rfl)⟩
 have K_Formulas_init : CalMk P w (gOf hs hx K w) mg base 1 cFormulas ["self", "number"] M_Formulas_init := ⟨_, fd_Formulas_init, He.mkr_ok (c.fact 25 (f := .mkr "Formulas") rfl), ok_Formulas_init (k := 0) (g := gOf hs hx K w) F_Formulas_init T , (F_Formulas_init.bindsN fun _ _ _ _ _ _ us hl => match us, hl with | [_, _], _ => rfl)⟩
 have K_law_due : Cal P w (gOf hs hx K w) mg base 10 "_law_due" ["_law_starts", "_law_rows", "_law_function", "_law_args"] M_law_due := ⟨_, fd_law_due, He.glo_ok X G (c.fact 26 (f := .glo "_law_due") rfl), ok_law_due (k := 0) (g := gOf hs hx K w) F_law_due T , F_law_due.kp, (F_law_due.bindsN fun _ _ _ _ _ _ us hl => match us, hl with | [_, _, _, _], _ => rfl)⟩
 have K_Formulas_apply : FnT P w (gOf hs hx K w).K mg base (gOf hs hx K w) 10 _ fd_Formulas_apply ["self", "function", "args"] M_Formulas_apply := ⟨ok_Formulas_apply (k := 0) (g := gOf hs hx K w) F_Formulas_apply T (X_UnknownFormula.mono (by decide)), F_Formulas_apply.kp, (F_Formulas_apply.bindsN fun _ _ _ _ _ _ us hl => match us, hl with | [_, _, _], _ => rfl)⟩
 have E_mtSelfFormulas_apply : MethE P w (gOf hs hx K w).K mg base (gOf hs hx K w) 10 "apply" mtSelfFormulas_apply := by
   intro c0 M h1 h2
   unfold mtSelfFormulas_apply at h2
   split at h2
   · rename_i e; subst e; cases h2
     exact ⟨_, _, _, He.meth_ok (c.fact 27 (f := .meth "Formulas" "apply") rfl), FnT.mono K_Formulas_apply (by decide), by decide +kernel⟩
   · cases h2
 have K_Formulas_call : FnT P w (gOf hs hx K w).K mg base (gOf hs hx K w) 11 _ fd_Formulas_call ["self", "function", "args"] M_Formulas_call := ⟨ok_Formulas_call (k := 10) (g := gOf hs hx K w) F_Formulas_call T (E_mtSelfFormulas_apply.mono (by decide)), F_Formulas_call.kp, (F_Formulas_call.bindsN fun _ _ _ _ _ _ us hl => match us, hl with | [_, _, _], _ => rfl)⟩
 have O_call : OpE P w (gOf hs hx K w).K mg base (gOf hs hx K w) 11 "__call__" mtO_callFormulas := by
   intro c0 M h1 h2
   unfold mtO_callFormulas at h2
   split at h2
   · rename_i e; subst e; cases h2
     have o0 := xOp_ok (c.xs 10 (f := xOp "Formulas" "__call__") rfl)
     exact ⟨_, _, _, He.meth_ok (c.fact 28 (f := .meth "Formulas" "__call__") rfl), FnT.mono K_Formulas_call (by decide), o0.1, o0.2⟩
   · cases h2
 have K_law_called : Cal P w (gOf hs hx K w) mg base 13 "_law_called" ["_law_formulas", "_law_function", "_law_args"] M_law_called := ⟨_, fd_law_called, He.glo_ok X G (c.fact 29 (f := .glo "_law_called") rfl), ok_law_called (k := 11) (g := gOf hs hx K w) F_law_called T (O_call.mono (by decide)), F_law_called.kp, (F_law_called.bindsN fun _ _ _ _ _ _ us hl => match us, hl with | [_, _, _], _ => rfl)⟩
 have K_law_is_number : Cal P w (gOf hs hx K w) mg base 1 "_law_is_number" ["_law_actual"] M_law_is_number := ⟨_, fd_law_is_number, He.glo_ok X G (c.fact 30 (f := .glo "_law_is_number") rfl), ok_law_is_number (k := 0) (g := gOf hs hx K w) F_law_is_number T , F_law_is_number.kp, (F_law_is_number.bindsN fun _ _ _ _ _ _ us hl => match us, hl with | [_], _ => rfl)⟩
 have K_Formulas_rows : FnT P w (gOf hs hx K w).K mg base (gOf hs hx K w) 1 _ fd_Formulas_rows ["self"] M_Formulas_rows := ⟨ok_Formulas_rows (k := 0) (g := gOf hs hx K w) F_Formulas_rows T , F_Formulas_rows.kp, (F_Formulas_rows.bindsN fun _ _ _ _ _ _ us hl => match us, hl with | [_], _ => rfl)⟩
 have K_law_same : Cal P w (gOf hs hx K w) mg base 2 "_law_same" ["_law_actual", "_law_due_here"] M_law_same := ⟨_, fd_law_same, He.glo_ok X G (c.fact 31 (f := .glo "_law_same") rfl), ok_law_same (k := 1) (g := gOf hs hx K w) F_law_same T (K_law_is_number.mono (by decide)), F_law_same.kp, (F_law_same.bindsN fun _ _ _ _ _ _ us hl => match us, hl with | [_, _], _ => rfl)⟩
 have K_law_same_rows : Cal P w (gOf hs hx K w) mg base 3 "_law_same_rows" ["_law_actual", "_law_due_here"] M_law_same_rows := ⟨_, fd_law_same_rows, He.glo_ok X G (c.fact 32 (f := .glo "_law_same_rows") rfl), ok_law_same_rows (k := 2) (g := gOf hs hx K w) F_law_same_rows T (K_law_same.mono (by decide)), F_law_same_rows.kp, (F_law_same_rows.bindsN fun _ _ _ _ _ _ us hl => match us, hl with | [_, _], _ => rfl)⟩
 have E_mtFormulas_rows : MethE P w (gOf hs hx K w).K mg base (gOf hs hx K w) 1 "rows" mtFormulas_rows := by
   intro c0 M h1 h2
   unfold mtFormulas_rows at h2
   split at h2
   · rename_i e; subst e; cases h2
     exact ⟨_, _, _, He.meth_ok (c.fact 33 (f := .meth "Formulas" "rows") rfl), FnT.mono K_Formulas_rows (by decide), by decide +kernel⟩
   · cases h2
 exact ok_law (k := 12) (g := gOf hs hx K w) F_law T (K_law_pool.mono (by decide)) (K_law_names.mono (by decide)) (K_law_draw.mono (by decide)) (K_Formulas_init.mono (by decide)) (K_law_due.mono (by decide)) (K_law_called.mono (by decide)) (K_law_is_number.mono (by decide)) (K_law_same_rows.mono (by decide)) (E_mtFormulas_rows.mono (by decide))
end Zl
end
open PySem PySem.W PySem.Calls PyProof.Rows
theorem PySem.Challenge.cw_untoldrule_k28_formulas_have_numbers_holds : PySem.Challenge.rw_untoldrule_k28_formulas_have_numbers.Holds := by
 w_on; o_law
 refine HandSHeadRun.head_any (r := OpenLaw.row PySem.Challenge.rw_untoldrule_k28_formulas_have_numbers) (q := view (OpenLaw.row PySem.Challenge.rw_untoldrule_k28_formulas_have_numbers).prog [15]) (H := Zl.hk) (ob := Zl.ob) (M := 8000) (loose := Zl.names) (d := HandSHeadRun.topDef (OpenLaw.row PySem.Challenge.rw_untoldrule_k28_formulas_have_numbers).prog 15) (kwd := []) Zl.ob_eq
   (by kernel_rfl) (fun s => by kernel_rfl) Zl.run (by kernel_rfl) (by kernel_rfl) (by kernel_rfl) (by rfl) (by first | assumption | decide +kernel) (by decide +kernel) ⟨rfl, rfl, rfl, rfl, rfl, by decide +kernel⟩ ?hw ?hc
 case hw => w_witness2
 case hc =>
   refine L2.walk_ofE (l := PySem.Challenge.rw_untoldrule_k28_formulas_have_numbers) (n := 63) (k := 14) (x := "_law_script") (CX := L2.CX0) rfl (by decide) (by kernel_rfl) ⟨rfl, by decide, by decide⟩ ?F (fun _ _ _ _ z => z)
   intro w mg fa h Y G hmg0
   obtain ⟨K, KX, c⟩ := Y
   have hmg : mg ("law" : PySem.Str) = some (.ref fa) := by
     have e : (HandSHeadRun.topDef (OpenLaw.row PySem.Challenge.rw_untoldrule_k28_formulas_have_numbers).prog 15).name = ("law" : PySem.Str) := by kernel_rfl
     rw [← e]
     exact hmg0
   have e := hmg.symm.trans (He.glo_ok KX G (c.fact 34 (f := .glo "law") rfl))
   cases e
   obtain ⟨fd, hb, hF⟩ := Zl.law_ok (P := (PySem.Challenge.rw_untoldrule_k28_formulas_have_numbers).prog) (w := w) (by kernel_rfl) (by kernel_rfl) KX G c
   exact ⟨K, fd, fun vs H Q _ => Zl.lowF (Zl.gOf Zl.hs Zl.hx K w) Zl.M_law vs H Q fun _ _ _ => False, KX, hb, fun H a ns hl _ hS => Zl.law_sp hS (Zl.law_true ns hl), fun base _ _ => Zl.fnOk0 (hF base)⟩
