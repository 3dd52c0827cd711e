import PyProof.Rows.All
import Wide.All
import OpenK.AllK
import Wide.FinOn
import HandS.Head0
import HandS.Head1
import HandS.Head2
import HandS.HeadEnd
import HandS.HeadHook1
import HandS.HeadHook2
import KE.KSuper
import HandS.Words
import HandS.Head3
import HandS.ForMost
import HandS.Exc
import HandS.ExcOwn
import HandS.ExcInit
import HandS.TryOnly
import HandS.TryMany
import HandS.WordsExc
import KE.KeyNested
import KE.KDictWalk
import HandS.TupAny
import HandS.Deep
import HandS.CallSlots
import HandS.Defaults
import HandS.Comp
import HandS.Lambda
import HandS.IsInst
import HandS.ExcIs
import HandS.ClsMeth
import HandS.Star
import HandS.Text
import HandS.Strs
import HandS.FStr
import KE.KUnpackStar
import PyProof.EnumMake
import HandS.More
import PyProof.AutoIntOps
import HandS.ExcSuper
import KE.KExcIs
import HandS.ExcField
import HandS.HotCalls
import HandS.SetKeys
import HandS.OwnIter
import HandS.IterNext
import HandS.IterVal
import HandS.ExcInitHot
import HandS.ExcValue
import HandS.Zip
import HandS.Property
import KE.KOpsOwn
import HandS.GenBody
import HandS.GenList
import KE.KxField
import HandS.StrMore
import KE.KTupSum
import HandS.Gcd
import KE.KMathGC
import KE.KDictDisplayH
import KE.KDictCopyH
import HandS.DictComp
import KE.DatumIndex
import KE.DatumOrd
import KE.KOwnIter
import KE.KWithOwn
import HandS.MakeKwOnly
import HandS.Style
import HandS.TupLen
import HandS.Conv
import HandS.SortInts
import PySem.Challenge.RW_untoldrule_k04_whole_trials
set_option Elab.async false
set_option linter.all false
set_option maxRecDepth 100000
set_option maxHeartbeats 0
noncomputable section
abbrev UZ9:=PySem.W.Frag
theorem Xq5:type_of% @List.length_map:=@List.length_map
theorem Xq6:type_of% @List.getElem?_eq_getElem:=@List.getElem?_eq_getElem
theorem Xq7:type_of% @List.getElem?_map:=@List.getElem?_map
theorem Xq8:type_of% @List.mem_of_getElem?:=@List.mem_of_getElem?
theorem Xq9:type_of% @List.mem_cons_of_mem:=@List.mem_cons_of_mem
theorem Xr0:type_of% @List.getElem?_eq_some_iff:=@List.getElem?_eq_some_iff
theorem Xr1:type_of% @List.mem_cons_self:=@List.mem_cons_self
theorem Xr2:type_of% @List.getElem?_append_left:=@List.getElem?_append_left
theorem Xr3:type_of% @List.getElem?_set_self:=@List.getElem?_set_self
theorem Xr4{α:Type _}{β:Type _}{f:α->β}{a:α}{l:List α}:(a::l).map f=f a::l.map f:=rfl
theorem Xr5:type_of% @List.prefix_refl:=@List.prefix_refl
section
namespace Zl
open PySem PySem.Spec PyProof.Rows L2
abbrev mkS (s:List Nat):Str:=⟨s.toArray⟩
def Qw2 (gt:Addr->Option Obj):Nat->List Addr->Nat->List Addr->List Addr
 | 0,_,_,acc=>acc
 | _+1,[],_,acc=>acc
 | n+1,a::r,m,acc=>if Nat.testBit m a then Qw2 gt n r m acc else match gt a with
   | some o=>Qw2 gt n (He.refsD o++r) (m ||| (1 <<< a)) (a::acc)
   | none=>Qw2 gt n r m acc
structure DefZ where
 ad:UZ9->Addr
 name:Str
 qual:Str
 params:Arguments
 body:List Stmt
 scope:Scope
def QC1 (K:UZ9) (a:Addr):He.FnW:=match K.lookup a with
 | some ⟨_,_,.func fd,_⟩=>some (fd.name,fd.qualname,fd.params,fd.body,fd.scope,fd.globals,fd.closure,fd.builtins)
 | _=>none
def DefZ.val (d:DefZ):He.FnW:=some (d.name,d.qual,d.params,.stmts d.body,d.scope,mainGlobals,[],builtinsNs)
def DefZ.ok (K:UZ9) (d:DefZ):Bool:=PySem.W.keepIn K (.ref (d.ad K)) && (match K.lookup (d.ad K) with
 | some ⟨_,_,.func fd,_⟩=>PySem.W.codeIn K fd.code d.qual && (match fd.defaults with
   | .none=>true
   | _=>false)
 | _=>false)
abbrev Exs:Type:=List (UZ9->Bool)
def Qm4 (x:Str) (K:UZ9):Bool:=He.eqO (PySem.W.findIn K (.ref (He.ga K x)) "__getattribute__") (some (some (.builtin "BaseException.__getattribute__"))) && (He.eqO (PySem.W.findIn K (.ref (He.ga K x)) "__getattr__") (some none) &&
 (decide (PySem.W.subIn K (.ref (He.ga K x)) (.type "BaseException")=some true) && (PySem.W.hasDictIn K (He.ga K x) && (He.eqO (PySem.W.findIn K (.ref (He.ga K x)) "__class__") (some (some (.builtin "object.__class__"))) &&
 (He.eqO (PySem.W.specialIn K (.builtin "object.__class__") "__get__") (some (some (.builtin "getset_descriptor.__get__"))) && (decide (PySem.W.takesIn K (.builtin "object.__class__")=some true) && decide (PySem.W.mroIn K (He.ga K x) (.type "object")=some true)))))))
def D3 (x y:Str) (b:Bool) (K:UZ9):Bool:=decide (PySem.W.kitOne K (.ref (He.ga K x)) (.ref (He.ga K y))=some b)
def Qm5 (x:Str) (T:String) (b:Bool) (K:UZ9):Bool:=decide (PySem.W.kitOne K (.ref (He.ga K x)) (.type T)=some b)
structure DefC where
 ad:UZ9->Addr
 cl:UZ9->Addr
 name:Str
 qual:Str
 params:Arguments
 body:List Stmt
 scope:Scope
 file:Str
def Xb4 (K:UZ9) (a:Addr):He.FnW:=match K.lookup a with
 | some ⟨_,_,.func fd,_⟩=>some (fd.name,fd.qualname,fd.params,fd.body,fd.scope,fd.globals,fd.closure.map fun p=>(p.1,0),fd.builtins)
 | _=>none
def DefC.val (d:DefC):He.FnW:=some (d.name,d.qual,d.params,.stmts d.body,d.scope,mainGlobals,[(("__class__" : Str),0)],builtinsNs)
def QS9 (K:UZ9) (cd:Value) (file:Str):Bool:=match cd with
 | .ref c=>(match K.lookup c with
   | some ⟨_,_,.fields vs,_⟩=>(match (vs[2]? : Option Value) with
     | some (Value.str z _)=>decide (z=file)
     | _=>false)
   | _=>false)
 | _=>false
def QM2 (K:UZ9) (cc D:Addr):Bool:=match K.lookup cc with
 | some ⟨_,_,.cell (some (.ref D')),_⟩=>decide (D'=D)
 | _=>false
def DefC.ok (K:UZ9) (d:DefC):Bool:=PySem.W.keepIn K (.ref (d.ad K)) && ((PySem.W.clsIn K (d.cl K)).isSome && (match K.lookup (d.ad K) with
 | some ⟨_,_,.func fd,_⟩=>PySem.W.codeIn K fd.code d.qual && (QS9 K fd.code d.file && ((match fd.defaults with
   | .none=>true
   | _=>false) && (match fd.closure with
   | [(_,cc)]=>QM2 K cc (d.cl K)
   | _=>false)))
 | _=>false))
def QT0 (fa:List He.Fa) (ex:Exs) (fn:List He.DefD) (st:List DefZ) (su:List DefC) (K:UZ9):He.AlD :=
 ((fa.all fun f=>f.ok K) && ((ex.all fun f=>f K) && ((fn.all fun d=>d.ok K) && ((st.all fun d=>d.ok K) && su.all fun d=>d.ok K))),((fn.map fun d=>He.fnW K d.at_)++st.map fun d=>QC1 K (d.ad K))++su.map fun d=>Xb4 K (d.ad K))
def QQ9 (fn:List He.DefD) (st:List DefZ) (su:List DefC):He.AlD:=(true,(fn.map He.DefD.val++st.map DefZ.val)++su.map DefC.val)
def SaysS (fa:List He.Fa) (ex:Exs) (fn:List He.DefD) (st:List DefZ) (su:List DefC) (K:UZ9):Prop:=QT0 fa ex fn st su K=QQ9 fn st su
def QT1 (n:Nat) (fa:List He.Fa) (ex:Exs) (fn:List He.DefD) (st:List DefZ) (su:List DefC) (gt:Addr->Option Obj):He.AlD:=QT0 fa ex fn st su (He.frG gt (Qw2 gt n [mainGlobals,cStatics] 0 []))
def QC2 (n:Nat) (fa:List He.Fa) (ex:Exs) (fn:List He.DefD) (st:List DefZ) (su:List DefC):PySem.W.Hook where
 α:=He.AlD
 obs:=fun s=>QT1 n fa ex fn st su s.heap.get?
 val:=fun _=>QQ9 fn st su
 says:=fun _ h=>∃ K:UZ9,K.In h/\SaysS fa ex fn st su K
 of:=fun _ _ e=>⟨_,He.frG_in,e⟩
 keeps:=fun _ _ _ ⟨K,hK,c⟩ k=>⟨K,PySem.W.Frag.In.keeps hK k,c⟩
theorem QM3 {n:Nat} {fa:List He.Fa} {ex:Exs} {fn:List He.DefD} {st:List DefZ} {su:List DefC} {gt:Addr->Option Obj} {s:Shared} (h:∀ a,gt a=s.heap.get? a):QT1 n fa ex fn st su gt=(QC2 n fa ex fn st su).obs s:=by
 have e:gt=s.heap.get?:=funext h;rw [e]
 all_goals rfl
abbrev VEI:Value:=.builtin "ValueError.__init__"
def xOex (x:Str) (K:UZ9):Bool:=(match K.lookup (He.ga K x) with
 | some ⟨.type "type",_,.cls cd,sl⟩=>(match cd.mro,sl.toList with
   | .ref C'::bm,[_,_,_,_,some (.builtin n),_]=>decide (C'=He.ga K x) && (decide (n = "ValueError.__new__") && (!cd.hasDel && (cd.hasDict && PySem.HandSPX.refsVE bm)))
   | _,_=>false)
 | _=>false) && (He.eqO (PySem.W.findIn K (.ref (He.ga K x)) "__setattr__") (some (some (.builtin "object.__setattr__"))) && (decide (PySem.W.subIn K (.ref (He.ga K x)) (.type "BaseException")=some true) && (decide (PySem.W.typeIn K (.ref (He.ga K x))=some (.type "type")) && PySem.W.keepIn K (.ref (He.ga K x)))))
def Qk5 (x:Str) (K:UZ9):Bool:=decide (PySem.W.mroIn K (He.ga K x) (.ref (He.ga K x))=some true) && (He.eqO (PySem.W.ks_superIn K (He.ga K x) (He.ga K x) "__init__") (some (some VEI)) && (decide (PySem.W.mroIn K (He.ga K x) (.type "ValueError")=some true) && (He.eqO (PySem.W.nsIn K cStatics "thirdparty.any") (some none) && xOex x K)))
def QL6 (x:Str) (K:UZ9):Bool:=He.eqO (PySem.W.findIn K (.ref (He.ga K x)) "__init__") (some (some (.ref (He.fAd K (x,some "__init__"))))) && decide (PySem.W.typeIn K (.ref (He.fAd K (x,some "__init__")))=some (.type "function"))
def xOp (x m:Str) (K:UZ9):Bool:=PySem.W.fnIn K (He.ma K (He.ga K x) m) && PySem.W.noSeq K (He.ga K x)
def QC3 (x f:Str) (K:UZ9):Addr:=match PySem.W.findIn K (.ref (He.ga K x)) f with
 | some (some (.ref p))=>p
 | _=>0
def QT2 (l:Option (List Value)) (g:Addr):Bool:=match l with
 | some (.ref a::_)=>decide (a=g)
 | _=>false
def QT3 (l:Option (List Value)) (g:Addr):Bool:=match l with
 | some (_ :: .ref a::_)=>decide (a=g)
 | _=>false
def QT4 (x f:Str) (K:UZ9):Addr:=match PySem.W.recIn K (QC3 x f K) "property" with
 | some (.ref g::_)=>g
 | _=>0
def QT5 (x f:Str) (K:UZ9):Addr:=match PySem.W.recIn K (QC3 x f K) "property" with
 | some (_ :: .ref g::_)=>g
 | _=>0
def QT6 (x f:Str) (K:UZ9):Bool:=He.eqO (PySem.W.findIn K (.ref (He.ga K x)) f) (some (some (.ref (QC3 x f K)))) &&
 (He.eqO (PySem.W.specialIn K (.ref (QC3 x f K)) "__get__") (some (some (.builtin "property.__get__"))) &&
 (decide (PySem.W.takesIn K (.ref (QC3 x f K))=some true) && QT2 (PySem.W.recIn K (QC3 x f K) "property") (QT4 x f K)))
def QT7 (x f:Str) (K:UZ9):Bool:=He.eqO (PySem.W.takerIn K (He.ga K x) f) (some (some (.ref (QC3 x f K)))) &&
 (decide (PySem.W.typeIn K (.ref (QC3 x f K))=some (.type "property")) && QT3 (PySem.W.recIn K (QC3 x f K) "property") (QT5 x f K))
def O7 (s:Stmt) (j:Nat):Stmt:=match s with
 | .ClassDef _ _ _ b _ _ _ _ _ _ _=>b.getD j (.Pass ⟨0,0,0,0⟩)
 | _=>.Pass ⟨0,0,0,0⟩
abbrev obG (n:Nat) (fa:List He.Fa) (ex:Exs) (fn:List He.DefD) (st:List DefZ) (su:List DefC) (s:PySem.W.SharedT):He.AlD:=QT1 n fa ex fn st su (HandSHeadRun.getT s)
theorem QC4 {fa:List He.Fa} {ex:Exs} {fn1 fn2:List He.DefD} {st:List DefZ} {su:List DefC} {K:UZ9} (h1:QT0 fa [] fn1 [] [] K=QQ9 fn1 [] []) (h2:QT0 [] ex fn2 st su K=QQ9 fn2 st su):QT0 fa ex (fn1++fn2) st su K=QQ9 (fn1++fn2) st su:=by
 unfold QT0 QQ9 at *;simp only [List.all_nil,List.map_nil,List.append_nil,List.nil_append,Bool.true_and,Bool.and_true,Prod.mk.injEq,and_true] at h1 h2;obtain ⟨h1,h1'⟩:=h1;obtain ⟨h2,h2'⟩:=h2;simp only [Bool.and_eq_true] at h1 h2;simp only [List.all_append,List.map_append,h1.1,h1.2,h2.1,h2.2.1,h2.2.2.1,h2.2.2.2,Bool.true_and,Bool.and_true,List.append_assoc,Prod.mk.injEq,true_and];rw [List.append_assoc] at h2';rw [h1',h2',List.append_assoc]
open HandSHeadRun PySem.W in
def RunS (r:PySem.W.OpenRow) (q:Program) (M:Nat) (loose:List Str) (w:World):Prop :=
 ∀ os:OsState,(endF (stepQ (denQ tabQ) r.prog w) M r.prog w os).map (fun s=>(looksF r.prog (boot_heap w.params) s.abs,HandSHeadRun.seenQ q loose (importedModules r.prog.main.body) (fun s=>xlAt q [] s && recOk r.toRowW.records s) s.abs))=some (true,openGood q loose)
open HandSHeadRun PySem.W in
def RunO (r:PySem.W.OpenRow) (n M:Nat) (w:World) (fa:List He.Fa) (ex:Exs) (fn:List He.DefD) (st:List DefZ) (su:List DefC):Prop :=
 ∀ os:OsState,(endF (stepQ (denQ tabQ) r.prog w) M r.prog w os).map (fun s=>obG n fa ex fn st su s)=some ((QC2 n fa ex fn st su).val w)
theorem QC5 {r:PySem.W.OpenRow} {q:Program} {n M:Nat} {loose:List Str} {w:World} {fa:List He.Fa} {ex:Exs} {fn1 fn2:List He.DefD} {st:List DefZ} {su:List DefC}
   (h0:RunS r q M loose w) (h1:RunO r n M w fa [] fn1 [] []) (h2:RunO r n M w [] ex fn2 st su) :
   HandSHeadRun.RunEq r q (QC2 n fa ex (fn1++fn2) st su) (obG n fa ex (fn1++fn2) st su) M loose w:=by
 intro os;have a0:=h0 os;have a1:=h1 os;have a2:=h2 os;revert a0 a1 a2;generalize HandSHeadRun.endF (HandSHeadRun.stepQ (HandSHeadRun.denQ HandSHeadRun.tabQ) r.prog w) M r.prog w os=Y;intro a0 a1 a2;cases Y with
 | none=>cases a0
 | some s =>
   obtain ⟨l1,q1⟩:=Prod.mk.inj (Option.some.inj a0);exact congrArg some (Prod.ext l1 (Prod.ext q1 (QC4 (Option.some.inj a1) (Option.some.inj a2))))
open HandSHeadRun PySem.W in
def RunSI (r:PySem.W.OpenRow) (q:Program) (M:Nat) (loose:List Str) (w:World):Prop :=
 (wholeF (fun p=>stepQ (denQ tabQ) p w) fenceQ M r.prog).map (fun x=>(looksF r.prog x.1.heap x.2.abs,HandSHeadRun.seenQ q loose (importedModules r.prog.main.body) (fun s=>xlAt q [] s && recOk r.toRowW.records s) x.2.abs))=some (true,openGood q loose)
open HandSHeadRun PySem.W in
def RunOI (r:PySem.W.OpenRow) (n M:Nat) (w:World) (fa:List He.Fa) (ex:Exs) (fn:List He.DefD) (st:List DefZ) (su:List DefC):Prop :=
 (wholeF (fun p=>stepQ (denQ tabQ) p w) fenceQ M r.prog).map (fun x=>obG n fa ex fn st su x.2)=some ((QC2 n fa ex fn st su).val w)
end Zl
end
section
namespace Zl
open PySem PySem.Spec PyProof.Rows L2
def obsLG (L:List Addr) (fa:List He.Fa) (ex:Exs) (fn:List He.DefD) (st:List DefZ) (su:List DefC) (gt:Addr->Option Obj):He.AlD:=QT0 fa ex fn st su (He.frG gt L)
abbrev obL (L:List Addr) (fa:List He.Fa) (ex:Exs) (fn:List He.DefD) (st:List DefZ) (su:List DefC) (s:PySem.W.SharedT):He.AlD:=obsLG L fa ex fn st su (HandSHeadRun.getT s)
open HandSHeadRun PySem.W in
def RunL (r:PySem.W.OpenRow) (L:List Addr) (M:Nat) (w:World) (fa:List He.Fa) (ex:Exs) (fn:List He.DefD) (st:List DefZ) (su:List DefC):Prop :=
 ∀ os:OsState,(endF (stepQ (denQ tabQ) r.prog w) M r.prog w os).map (fun s=>obL L fa ex fn st su s)=some (QQ9 fn st su)
open HandSHeadRun PySem.W in
def RunLI (r:PySem.W.OpenRow) (L:List Addr) (M:Nat) (w:World) (fa:List He.Fa) (ex:Exs) (fn:List He.DefD) (st:List DefZ) (su:List DefC):Prop :=
 (wholeF (fun p=>stepQ (denQ tabQ) p w) fenceQ M r.prog).map (fun x=>obL L fa ex fn st su x.2)=some (QQ9 fn st su)
open HandSHeadRun PySem.W in
def RunSa (r:PySem.W.OpenRow) (M:Nat) (w:World):Prop :=
 ∀ os:OsState,(endF (stepQ (denQ tabQ) r.prog w) M r.prog w os).map (fun s=>looksF r.prog (boot_heap w.params) s.abs)=some true
open HandSHeadRun PySem.W in
def RunSb (r:PySem.W.OpenRow) (q:Program) (M:Nat) (loose:List Str) (w:World):Prop :=
 ∀ os:OsState,(endF (stepQ (denQ tabQ) r.prog w) M r.prog w os).map (fun s=>HandSHeadRun.seenQ q loose (importedModules r.prog.main.body) (fun s=>xlAt q [] s && recOk r.toRowW.records s) s.abs)=some (openGood q loose)
open HandSHeadRun PySem.W in
def RunSIa (r:PySem.W.OpenRow) (M:Nat) (w:World):Prop :=
 (wholeF (fun p=>stepQ (denQ tabQ) p w) fenceQ M r.prog).map (fun x=>looksF r.prog x.1.heap x.2.abs)=some true
open HandSHeadRun PySem.W in
def RunSIb (r:PySem.W.OpenRow) (q:Program) (M:Nat) (loose:List Str) (w:World):Prop :=
 (wholeF (fun p=>stepQ (denQ tabQ) p w) fenceQ M r.prog).map (fun x=>HandSHeadRun.seenQ q loose (importedModules r.prog.main.body) (fun s=>xlAt q [] s && recOk r.toRowW.records s) x.2.abs)=some (openGood q loose)
end Zl
end
section
namespace Zl
open PySem PySem.Spec PyProof.Rows L2
def top (i:Nat):Stmt:=PySem.Challenge.pw_untoldrule_k04_whole_trials.main.body.getD i (.Pass ⟨0,0,0,0⟩)
abbrev W5:Stmt:=top 19
abbrev Z5:Stmt:=top 20
abbrev Z6:Stmt:=top 21
abbrev W7:Stmt:=top 22
abbrev V1:Stmt:=top 12
abbrev J0:Stmt:=top 13
abbrev V3:Stmt:=top 14
abbrev V4:Stmt:=O7 (top 16) 0
abbrev Y6:Stmt:=O7 (top 16) 5
abbrev X5:Stmt:=O7 (top 16) 7
abbrev U5:Stmt:=O7 (top 16) 8
abbrev U6:Stmt:=top 23
abbrev W8:Stmt:=top 24
abbrev U7:Stmt:=top 28
abbrev K6:Stmt:=top 27
abbrev V5:Stmt:=O7 (top 15) 0
abbrev U8:Stmt:=O7 (top 16) 11
abbrev X8:Stmt:=O7 (top 15) 1
abbrev Y3:Stmt:=O7 (top 15) 2
abbrev Y7:Stmt:=O7 (top 16) 3
abbrev X6:Stmt:=O7 (top 16) 6
abbrev V6:Stmt:=O7 (top 16) 12
abbrev V7:Stmt:=top 26
abbrev Y8:Stmt:=top 18
abbrev Z7:Stmt:=top 25
abbrev J5:Stmt:=O7 (top 16) 4
abbrev Qh2:Stmt:=top 29
def Qh3:He.DefD:=⟨("_law_mixed",none), "_law_mixed", "_law_mixed",defArgs W5,defBody W5,defScope W5,[],[]⟩
def Ql4:He.DefD:=⟨("_law_pool",none), "_law_pool", "_law_pool",defArgs Z5,defBody Z5,defScope Z5,[],[]⟩
def Ql5:He.DefD:=⟨("_law_draw",none), "_law_draw", "_law_draw",defArgs Z6,defBody Z6,defScope Z6,[],[]⟩
def Qh4:He.DefD:=⟨("_law_names",none), "_law_names", "_law_names",defArgs W7,defBody W7,defScope W7,[],[]⟩
def Qd2:He.DefD:=⟨("valid_name",none), "valid_name", "valid_name",defArgs V1,defBody V1,defScope V1,[],[]⟩
def G6:He.DefD:=⟨("check_names",none), "check_names", "check_names",defArgs J0,defBody J0,defScope J0,[],[]⟩
def Qd3:He.DefD:=⟨("check_size",none), "check_size", "check_size",defArgs V3,defBody V3,defScope V3,[],[]⟩
def Qd4:He.DefD:=⟨("Cells",some "__init__"), "__init__", "Cells.__init__",defArgs V4,defBody V4,defScope V4,[],[]⟩
def N6:He.DefD:=⟨("Cells",some "checked"), "checked", "Cells.checked",defArgs Y6,defBody Y6,defScope Y6,[],[]⟩
def G7:He.DefD:=⟨("Cells",some "reset"), "reset", "Cells.reset",defArgs U5,defBody U5,defScope U5,[],[]⟩
def G8:He.DefD:=⟨("_law_strange",none), "_law_strange", "_law_strange",defArgs U6,defBody U6,defScope U6,[],[]⟩
def Qh5:He.DefD:=⟨("_law_value",none), "_law_value", "_law_value",defArgs W8,defBody W8,defScope W8,[],[]⟩
def G9:He.DefD:=⟨("_law_changes",none), "_law_changes", "_law_changes",defArgs U7,defBody U7,defScope U7,[],[]⟩
def Qp6:He.DefD:=⟨("_law_due",none), "_law_due", "_law_due",defArgs K6,defBody K6,defScope K6,[],[]⟩
def Qd5:He.DefD:=⟨("Trial",some "__init__"), "__init__", "Trial.__init__",defArgs V5,defBody V5,defScope V5,[],[]⟩
def E1:He.DefD:=⟨("Cells",some "trial"), "trial", "Cells.trial",defArgs U8,defBody U8,defScope U8,[],[]⟩
def E2:He.DefD:=⟨("Trial",some "__enter__"), "__enter__", "Trial.__enter__",defArgs X8,defBody X8,defScope X8,[],[]⟩
def Qd6:He.DefD:=⟨("Trial",some "__exit__"), "__exit__", "Trial.__exit__",defArgs Y3,defBody Y3,defScope Y3,[],[]⟩
def N7:He.DefD:=⟨("Cells",some "__setitem__"), "__setitem__", "Cells.__setitem__",defArgs Y7,defBody Y7,defScope Y7,[],[]⟩
def Qd7:He.DefD:=⟨("Cells",some "peek"), "peek", "Cells.peek",defArgs V6,defBody V6,defScope V6,[],[]⟩
def Qd8:He.DefD:=⟨("_law_peeked",none), "_law_peeked", "_law_peeked",defArgs V7,defBody V7,defScope V7,[],[]⟩
def N8:He.DefD:=⟨("_law_is_number",none), "_law_is_number", "_law_is_number",defArgs Y8,defBody Y8,defScope Y8,[],[]⟩
def Ql6:He.DefD:=⟨("_law_same",none), "_law_same", "_law_same",defArgs Z7,defBody Z7,defScope Z7,[],[]⟩
def D5:He.DefD:=⟨("Cells",some "change"), "change", "Cells.change",defArgs J5,defBody J5,defScope J5,[],[]⟩
def Xq1:He.DefD:=⟨("law",none), "law", "law",defArgs Qh2,defBody Qh2,defScope Qh2,[],[]⟩
def I5:DefZ:=⟨QT5 "Cells" "contents", "contents", "Cells.contents",defArgs X5,defBody X5,defScope X5⟩
def I7:DefZ:=⟨QT4 "Cells" "contents", "contents", "Cells.contents",defArgs X6,defBody X6,defScope X6⟩
abbrev O8:Stmt:=O7 (top 6) 0
def N9:DefC:=⟨fun K=>He.fAd K ("InvalidState",some "__init__"),fun K=>He.ga K "InvalidState", "__init__", "InvalidState.__init__",defArgs O8,defBody O8,defScope O8,PySem.Challenge.pw_untoldrule_k04_whole_trials.main.file⟩
abbrev T4:Stmt:=O7 (top 5) 0
def E3:DefC:=⟨fun K=>He.fAd K ("OutOfRange",some "__init__"),fun K=>He.ga K "OutOfRange", "__init__", "OutOfRange.__init__",defArgs T4,defBody T4,defScope T4,PySem.Challenge.pw_untoldrule_k04_whole_trials.main.file⟩
abbrev P2:Stmt:=O7 (top 4) 0
def D6:DefC:=⟨fun K=>He.fAd K ("UnknownCell",some "__init__"),fun K=>He.ga K "UnknownCell", "__init__", "UnknownCell.__init__",defArgs P2,defBody P2,defScope P2,PySem.Challenge.pw_untoldrule_k04_whole_trials.main.file⟩
def fa_1:List He.Fa:=[.free "abs",.free "all",.free "bool",.free "int",.free "isinstance",.free "len",.free "list",.free "range",.free "set",.free "tuple",.free "zip",.cls "Trial",.cls "Cells",.noat "Trial" "cells",.noat "Trial" "saved",.noat "Cells" "names",.noat "Cells" "size",.noat "Cells" "current",.exc "InvalidCells",.glo "Cells",.glo "InvalidCells",.glo "InvalidState",.glo "OutOfRange",.glo "Trial",.glo "UnknownCell",.str "LETTERS" (mkS [97,98,99,100,101,102,103,104,105,106,107,108,109,110,111,112,113,114,115,116,117,118,119,120,121,122]),.int "MOST_CELLS" 3,.int "MOST_LETTERS" 8,.int "MOST_SIZE" 3,.exm "InvalidCells" "OutOfRange" false,.exm "UnknownCell" "OutOfRange" false,.exm "OutOfRange" "OutOfRange" true,.exm "InvalidState" "OutOfRange" false,.exm "InvalidCells" "UnknownCell" false,.exm "UnknownCell" "UnknownCell" true,.exm "OutOfRange" "UnknownCell" false]
def fa_2:List He.Fa:=[.exm "InvalidState" "UnknownCell" false,.noat "InvalidCells" "cell",.noat "UnknownCell" "cell",.noat "OutOfRange" "cell",.noat "InvalidState" "cell",.noat "InvalidCells" "value",.noat "UnknownCell" "value",.noat "OutOfRange" "value",.noat "InvalidState" "value",.free "super",.glo "_law_mixed",.glo "_law_pool",.glo "_law_draw",.glo "_law_names",.glo "valid_name",.glo "check_names",.glo "check_size",.mkr "Cells",.meth "Cells" "checked",.glo "_law_strange",.glo "_law_value",.glo "_law_changes",.glo "_law_due",.mkr "Trial",.meth "Trial" "__enter__",.meth "Trial" "__exit__",.meth "Cells" "__setitem__",.meth "Cells" "trial",.meth "Cells" "peek",.glo "_law_peeked",.glo "_law_is_number",.glo "_law_same",.meth "Cells" "reset",.meth "Cells" "change",.glo "law"]
def fa:List He.Fa:=fa_1++fa_2
def exs:Exs:=[Qm4 "InvalidCells",Qm4 "UnknownCell",Qm4 "OutOfRange",Qm4 "InvalidState",D3 "InvalidCells" "InvalidCells" true,D3 "InvalidCells" "UnknownCell" false,D3 "InvalidCells" "OutOfRange" false,D3 "InvalidCells" "InvalidState" false,D3 "UnknownCell" "InvalidCells" false,D3 "UnknownCell" "UnknownCell" true,D3 "UnknownCell" "OutOfRange" false,D3 "UnknownCell" "InvalidState" false,D3 "OutOfRange" "InvalidCells" false,D3 "OutOfRange" "UnknownCell" false,D3 "OutOfRange" "OutOfRange" true,D3 "OutOfRange" "InvalidState" false,D3 "InvalidState" "InvalidCells" false,D3 "InvalidState" "UnknownCell" false,D3 "InvalidState" "OutOfRange" false,D3 "InvalidState" "InvalidState" true,Qm5 "InvalidCells" "ValueError" true,Qm5 "UnknownCell" "ValueError" true,Qm5 "OutOfRange" "ValueError" true,Qm5 "InvalidState" "ValueError" true,QL6 "InvalidState",Qk5 "InvalidState",QL6 "OutOfRange",Qk5 "OutOfRange",QL6 "UnknownCell",Qk5 "UnknownCell",QT7 "Cells" "contents",QT6 "Cells" "contents",xOp "Cells" "__setitem__"]
def su:List DefC:=[N9,E3,D6]
def fn1:List He.DefD:=[Qh3,Ql4,Ql5,Qh4,Qd2,G6,Qd3,Qd4,N6,G7,G8,Qh5]
def fn2:List He.DefD:=[G9,Qp6,Qd5,E1,E2,Qd6,N7,Qd7,Qd8,N8,Ql6,D5,Xq1]
def fn:List He.DefD:=fn1++fn2
def st:List DefZ:=[I5,I7]
abbrev RR:PySem.W.OpenRow:=PySem.W.OpenLaw.row PySem.Challenge.rw_untoldrule_k04_whole_trials
def names:List Str:=(["_wall", "WeaveError", "InvalidCells", "UnknownCell", "OutOfRange", "InvalidState", "LETTERS", "MOST_LETTERS", "MOST_CELLS", "MOST_SIZE", "valid_name", "check_names", "check_size", "Trial", "Cells", "_law_is_number", "_law_mixed", "_law_pool", "_law_draw", "_law_names", "_law_strange", "_law_value", "_law_same", "_law_peeked", "_law_due", "_law_changes"]:List String).map Str.ofString
abbrev hk:PySem.W.Hook:=QC2 100000 fa exs fn st su
def ob (s:PySem.W.SharedT):He.AlD:=obG 100000 fa exs fn st su s
theorem ob_eq (s:PySem.W.SharedT):ob s=hk.obs s.abs:=QM3 (HandSHeadRun.getT_eq s)
theorem run0 (w:World):RunS RR (PySem.W.view RR.prog [29]) 8000 names w:=by
 intro os
 kernel_rfl
theorem run1 (w:World):RunO RR 100000 8000 w fa [] fn1 [] []:=by
 intro os
 kernel_rfl
theorem run2 (w:World):RunO RR 100000 8000 w [] exs fn2 st su:=by
 intro os
 kernel_rfl
theorem run (w:World):HandSHeadRun.RunEq RR (PySem.W.view RR.prog [29]) hk ob 8000 names w:=QC5 (run0 w) (run1 w) (run2 w)
end Zl
end
section
namespace Zl
open PySem L2
def fnames:List Str:=(["cell", "value", "line", "name", "function", "number", "position", "place", "start", "program", "lane", "names", "size", "current", "cells", "saved", "source", "local", "target", "inputs", "steps", "lanes", "tracks", "lengths", "system", "plan", "counts", "programs", "tables", "members", "found", "end", "rule", "step", "starts", "numbers", "pairs", "weave", "known", "machine", "scheduler", "beginning", "own"]:List String).map Str.ofString
def fnm (i:Nat):Str:=fnames[i]?.getD ⟨#[1114200+i]⟩
theorem Qp7:fnames.Nodup:=by decide +kernel
theorem Ql7:∀ s∈fnames,∀ c∈s.cps.toList,c<1114200:=by
 have h:(fnames.all fun s=>s.cps.toList.all fun c=>decide (c<1114200))=true:=by decide +kernel
 intro s hs c hc;exact of_decide_eq_true (List.all_eq_true.mp (List.all_eq_true.mp h s hs) c hc)
theorem Qm6 {i j:Nat} (h:fnm i=fnm j):i=j:=by
 unfold fnm at h;cases hi:fnames[i]? with
 | some x =>
   cases hj:fnames[j]? with
   | some y =>
     rw [hi,hj] at h;have e:x=y:=h;subst e;obtain ⟨li,ei⟩:=Xr0.mp hi;obtain ⟨lj,ej⟩:=Xr0.mp hj;exact nodup_ix Qp7 hi hj
   | none =>
     rw [hi,hj] at h;have e:x=(⟨#[1114200+j]⟩:Str):=h;have:=Ql7 x (Xq8 hi) (1114200+j) (by rw [e]; simp);omega
 | none =>
   cases hj:fnames[j]? with
   | some y =>
     rw [hi,hj] at h;have e:(⟨#[1114200+i]⟩:Str)=y:=h;have:=Ql7 y (Xq8 hj) (1114200+i) (by rw [<- e]; simp);omega
   | none =>
     rw [hi,hj] at h;have e:(⟨#[1114200+i]⟩:Str)=⟨#[1114200+j]⟩:=h
     injection e with e
     have:=congrArg Array.toList e;simp at this;omega
abbrev X3:Nat:=1
abbrev cUnknownCell:Nat:=2
abbrev cOutOfRange:Nat:=3
abbrev cInvalidState:Nat:=4
abbrev Q5:Nat:=17
abbrev X2:Nat:=18
abbrev cRead:Nat:=20
abbrev cWrite:Nat:=21
abbrev Qz0:Nat:=22
abbrev f_cell:Nat:=0
abbrev f_value:Nat:=1
abbrev f_line:Nat:=2
abbrev f_name:Nat:=3
abbrev f_function:Nat:=4
abbrev f_number:Nat:=5
abbrev f_position:Nat:=6
abbrev f_place:Nat:=7
abbrev f_start:Nat:=8
abbrev f_program:Nat:=9
abbrev f_lane:Nat:=10
abbrev f_names:Nat:=11
abbrev f_size:Nat:=12
abbrev f_current:Nat:=13
abbrev f_cells:Nat:=14
abbrev f_saved:Nat:=15
abbrev f_source:Nat:=16
abbrev f_local:Nat:=17
abbrev f_target:Nat:=18
abbrev f_inputs:Nat:=19
abbrev f_steps:Nat:=20
abbrev f_lanes:Nat:=21
abbrev f_tracks:Nat:=22
abbrev f_lengths:Nat:=23
abbrev f_system:Nat:=24
abbrev f_plan:Nat:=25
abbrev f_counts:Nat:=26
abbrev f_programs:Nat:=27
abbrev f_tables:Nat:=28
abbrev f_members:Nat:=29
abbrev f_found:Nat:=30
abbrev f_end:Nat:=31
abbrev f_rule:Nat:=32
abbrev f_step:Nat:=33
abbrev f_starts:Nat:=34
abbrev f_numbers:Nat:=35
abbrev f_pairs:Nat:=36
abbrev f_weave:Nat:=37
abbrev f_known:Nat:=38
abbrev f_machine:Nat:=39
abbrev f_scheduler:Nat:=40
abbrev f_beginning:Nat:=41
abbrev f_own:Nat:=42
def X0:Nat->List Nat
 | 2=>[0]
 | 3=>[1,0]
 | 4=>[0]
 | 5=>[2]
 | 6=>[3]
 | 7=>[3]
 | 8=>[4]
 | 10=>[5]
 | 11=>[6]
 | 12=>[7]
 | 13=>[6]
 | 14=>[5]
 | 15=>[9,8]
 | 16=>[6,10]
 | 17=>[14,15]
 | 18=>[11,12,13]
 | 20=>[16,17]
 | 21=>[18,4,19]
 | 22=>[16,17,18,4,19]
 | 23=>[3,20]
 | 24=>[14,27,26,11]
 | 25=>[24,12,28]
 | 26=>[21]
 | 27=>[24,25,22,23]
 | 28=>[29,30]
 | 29=>[8,31,32,33]
 | 30=>[34,35]
 | 31=>[35,12,8,31,36,32,33]
 | 32=>[37]
 | 33=>[37,38]
 | 34=>[37,38,39]
 | 35=>[37,38,39,32]
 | 36=>[40,39,14,41,42]
 | _=>[]
def isx (c x:Nat):Option Bool:=if c<=16/\x<=16 then some (c == x || x == 0) else none
def cnames:List Str:=(["WeaveError", "InvalidCells", "UnknownCell", "OutOfRange", "InvalidState", "InvalidProgram", "InvalidSystem", "UnknownProgram", "InvalidTable", "InvalidPlan", "TooManySteps", "InvalidWeaving", "InvalidPlaces", "NoWeaving", "UnknownFormula", "NotKept", "Refused", "Trial", "Cells", "Step", "Read", "Write", "ReadWrite", "Program", "System", "Machine", "Plan", "Weave", "Rule", "Breach", "Formulas", "FreeStore", "SerialScheduler", "NamesScheduler", "TablesScheduler", "RuleScheduler", "Run"]:List String).map Str.ofString
end Zl
end
section
namespace Zl
open PySem PySem.Spec PyProof.Rows L2
inductive D where
 | non | bl (b:Bool) | int (i:Int) | str (s:List Nat)
 | tup (xs:List D) | lst (xs:List D)
 | tupN (xs:List D)
 | scr (xs:List D)
 | obj (c:Nat) (vs:List D)
 | dic (ks vs:List D)
 | dit (ks vs:List D)
 | cls (c:Nat)
inductive Z where
 | d (x:D) | r (i:Nat) | e (a:Addr)
inductive ZO where
 | gone
 | dl (xs:List D) | zl (xs:List Z)
 | dic (ks vs:List D)
 | dit (ks vs:List D)
 | zdic (ks:List D) (zs:List Z)
 | ins (c:Nat) (fs:List (Nat × Z))
def ZO.live:ZO->Bool
 | .gone=>false
 | _=>true
abbrev ZH:=List ZO
abbrev ZS:=List (Option Z)
structure ZX where
 c:Nat
 vs:List D
structure G where
 K:UZ9
 cad:Nat->Addr
 has:Nat->Bool
 hasX:Nat->Bool
 w:World
def keyD:Key->D
 | .inl i=>.int i
 | .inr s=>.str s.cps.toList
theorem Qt2 {s t:List Nat} (h:mkS s=mkS t):s=t:=by
 injection h with h
 simpa using congrArg Array.toList h
def SOk (s:List Nat):Prop:=(∀ c∈s,c<1114112)/\s.length<=sizeLine
def ditO (a:Addr) (es:Array DictEntry):HO:=.ext fun h=>∃ o ep,h.get? a=some o/\o.ExactDict/\o.data = .dict es ep
mutual
def nkD:D->Option NestedKey
 | .non=>some .none
 | .int i=>some (.num i)
 | .str s=>some (.text (mkS s))
 | .tup xs=>(Xb5 xs).map .tup
 | .tupN xs=>(Xb5 xs).map .tup
 | _=>none
def Xb5:List D->Option (List NestedKey)
 | []=>some []
 | x::xs=>(nkD x).bind fun k=>(Xb5 xs).map fun ks=>k::ks
end
abbrev NK:=NestedKey × Addr × Value
def entN (w:World) (x:NK):DictEntry:=⟨x.1.hash w,.ref x.2.1,x.2.2⟩
structure DitE (w:World) (o:Option HO) (a:Addr) (ks:List D) (xs:List NK) (vs:List V):Prop where
 at_:o=some (ditO a (xs.map (entN w)).toArray)
 sm:(a == sysModules)=false
 nd:(xs.map (·.1)).Nodup
 sz:xs.length<=sizeLine
 key:ks.map nkD=xs.map fun x=>some x.1
 dep:∀ x∈xs,x.1.depth<=8
 val:Vals vs (xs.map fun x=>x.2.2)
section
variable (g:G) (U:Addr->Prop) (H:Hp)
mutual
def RD:D->V->Prop
 | .non,v=>v = .non
 | .bl b,v=>v = .bl b
 | .int i,v=>v = .int i
 | .str s,v=>v = .str (mkS s)/\SOk s
 | .tup xs,v=>∃ a vs,v = .ref a /\ ¬ U a/\Rd H a (.tup vs)/\RDs xs vs
 | .tupN xs,v=>∃ a vs od,v = .ref a /\ ¬ U a/\H a=some (.frz od (.tup vs))/\od.dict=none/\RDs xs vs
 | .lst xs,v=>∃ a vs,v = .ref a /\ ¬ U a/\H a=some (.lst vs)/\RDs xs vs
 | .scr xs,v=>∃ a vs,v = .ref a/\((¬ U a/\Rd H a (.lst vs)) \/ ∀ H',SqL g.K H' a vs)/\RDs xs vs
 | .obj c ds,v=>∃ a dx fvs,v = .ref a /\ ¬ U a/\g.has c=true/\H a=some (.ins (g.cad c) dx fvs)/\fvs.map (·.1)=(X0 c).map fnm/\RDs ds (fvs.map (·.2))
 | .dic ks ds,v=>∃ a od kvs,v = .ref a /\ ¬ U a/\H a=some (.frz od (.dK kvs))/\ks=kvs.map (fun p:Key × V=>keyD p.1)/\(∀ s,.str s∈ks->SOk s)/\RDs ds (kvs.map (·.2))
 | .dit ks ds,v=>∃ a xs vs,v = .ref a /\ ¬ U a/\DitE g.w (H a) a ks xs vs/\RDs ks (xs.map fun x=>.ref x.2.1)/\RDs ds vs
 | .cls c,v=>v = .ref (g.cad c)
def RDs:List D->List V->Prop
 | [],vs=>vs=[]
 | x::xs,vs=>∃ v vs',vs=v::vs'/\RD x v/\RDs xs vs'
end
end
def Stb (U:Addr->Prop) (H:Hp) (U':Addr->Prop) (H':Hp):Prop:=∀ a o,H a=some o -> ¬ U a->H' a=some o /\ ¬ U' a
theorem Stb.refl {U:Addr->Prop} {H:Hp}:Stb U H U H:=fun _ _ h n=>⟨h,n⟩
theorem Stb.trans {U U1 U2:Addr->Prop} {H H1 H2:Hp} (a:Stb U H U1 H1) (b:Stb U1 H1 U2 H2):Stb U H U2 H2:=fun x o h n =>
 let ⟨h1,n1⟩:=a x o h n
 b x o h1 n1
section
variable {g:G} {U U':Addr->Prop} {H H':Hp}
theorem Rd.stb {a:Addr} {u:HO} (s:Stb U H U' H') (n:¬ U a) (h:Rd H a u):Rd H' a u /\ ¬ U' a:=by
 rcases h with h | ⟨o,h⟩
 . exact ⟨.inl (s a _ h n).1,(s a _ h n).2⟩
 . exact ⟨.inr ⟨o,(s a _ h n).1⟩,(s a _ h n).2⟩
end
theorem scL {K:UZ9} {U:Addr->Prop} {H:Hp} {a:Addr} {vs:List V} (h:(¬ U a/\Rd H a (.lst vs)) \/ ∀ H',SqL K H' a vs):SqL K H a vs:=h.elim (fun z=>.inl z.2) (fun z=>z H)
section
variable {g:G} {U U':Addr->Prop} {H H':Hp}
mutual
theorem RD.mono (s:Stb U H U' H'):∀ (d:D) (v:V),RD g U H d v->RD g U' H' d v
 | .non,_,h=>by unfold RD at *; exact h
 | .bl _,_,h=>by unfold RD at *; exact h
 | .int _,_,h=>by unfold RD at *; exact h
 | .str _,_,h=>by unfold RD at *; exact h
 | .cls _,_,h=>by unfold RD at *; exact h
 | .tup xs,_,h=>by
   unfold RD at *;obtain ⟨a,vs,e,n,r,q⟩:=h;exact ⟨a,vs,e,(Rd.stb s n r).2,(Rd.stb s n r).1,RDs.mono s xs vs q⟩
 | .tupN xs,_,h=>by
   unfold RD at *;obtain ⟨a,vs,od,e,n,r,k,q⟩:=h;exact ⟨a,vs,od,e,(s a _ r n).2,(s a _ r n).1,k,RDs.mono s xs vs q⟩
 | .lst xs,_,h=>by
   unfold RD at *;obtain ⟨a,vs,e,n,r,q⟩:=h;exact ⟨a,vs,e,(s a _ r n).2,(s a _ r n).1,RDs.mono s xs vs q⟩
 | .scr xs,_,h=>by
   unfold RD at *;obtain ⟨a,vs,e,r,q⟩:=h;exact ⟨a,vs,e,r.imp (fun z=>⟨(Rd.stb s z.1 z.2).2,(Rd.stb s z.1 z.2).1⟩) id,RDs.mono s xs vs q⟩
 | .obj c ds,_,h=>by
   unfold RD at *;obtain ⟨a,dx,fvs,e,n,hc,r,k,q⟩:=h;exact ⟨a,dx,fvs,e,(s a _ r n).2,hc,(s a _ r n).1,k,RDs.mono s ds _ q⟩
 | .dic ks ds,_,h=>by
   unfold RD at *;obtain ⟨a,od,kvs,e,n,r,k,k',q⟩:=h;exact ⟨a,od,kvs,e,(s a _ r n).2,(s a _ r n).1,k,k',RDs.mono s ds _ q⟩
 | .dit ks ds,_,h=>by
   unfold RD at *;obtain ⟨a,xs,vs,e,n,r,q1,q2⟩:=h;have st:=s a _ r.at_ n;exact ⟨a,xs,vs,e,st.2,⟨st.1,r.sm,r.nd,r.sz,r.key,r.dep,r.val⟩,RDs.mono s ks _ q1,RDs.mono s ds _ q2⟩
theorem RDs.mono (s:Stb U H U' H'):∀ (ds:List D) (vs:List V),RDs g U H ds vs->RDs g U' H' ds vs
 | [],_,h=>by unfold RDs at *; exact h
 | d::ds,_,h=>by
   unfold RDs at *;obtain ⟨v,vs',e,r,q⟩:=h;exact ⟨v,vs',e,RD.mono s d v r,RDs.mono s ds vs' q⟩
end
theorem rd_non {v:V}:RD g U H .non v↔v = .non:=by unfold RD; exact Iff.rfl
theorem rd_bl {b:Bool} {v:V}:RD g U H (.bl b) v↔v = .bl b:=by unfold RD; exact Iff.rfl
theorem rd_int {i:Int} {v:V}:RD g U H (.int i) v↔v = .int i:=by unfold RD; exact Iff.rfl
theorem rd_str {s:List Nat} {v:V}:RD g U H (.str s) v↔v = .str (mkS s)/\SOk s:=by unfold RD; exact Iff.rfl
theorem rd_cls {c:Nat} {v:V}:RD g U H (.cls c) v↔v = .ref (g.cad c):=by unfold RD; exact Iff.rfl
theorem rd_tup {xs:List D} {v:V}:RD g U H (.tup xs) v ↔ ∃ a vs,v = .ref a /\ ¬ U a/\Rd H a (.tup vs)/\RDs g U H xs vs:=by
 conv=>lhs; unfold RD
theorem rd_tupN {xs:List D} {v:V}:RD g U H (.tupN xs) v ↔ ∃ a vs od,v = .ref a /\ ¬ U a/\H a=some (.frz od (.tup vs))/\od.dict=none/\RDs g U H xs vs:=by
 conv=>lhs; unfold RD
theorem QC6 {xs:List D} {v:V} (h:RD g U H (.tupN xs) v):RD g U H (.tup xs) v:=by
 obtain ⟨a,vs,od,e,n,q,_,r⟩:=rd_tupN.mp h;exact rd_tup.mpr ⟨a,vs,e,n,.inr ⟨od,q⟩,r⟩
theorem rd_lst {xs:List D} {v:V}:RD g U H (.lst xs) v ↔ ∃ a vs,v = .ref a /\ ¬ U a/\H a=some (.lst vs)/\RDs g U H xs vs:=by
 conv=>lhs; unfold RD
theorem rd_scr {xs:List D} {v:V}:RD g U H (.scr xs) v ↔ ∃ a vs,v = .ref a/\((¬ U a/\Rd H a (.lst vs)) \/ ∀ H',SqL g.K H' a vs)/\RDs g U H xs vs:=by
 conv=>lhs; unfold RD
theorem rd_obj {c:Nat} {ds:List D} {v:V}:RD g U H (.obj c ds) v ↔ ∃ a dx fvs,v = .ref a /\ ¬ U a/\g.has c=true/\H a=some (.ins (g.cad c) dx fvs)/\fvs.map (·.1)=(X0 c).map fnm/\RDs g U H ds (fvs.map (·.2)):=by
 conv=>lhs; unfold RD
theorem rd_dic {ks ds:List D} {v:V}:RD g U H (.dic ks ds) v ↔ ∃ a od kvs,v = .ref a /\ ¬ U a/\H a=some (.frz od (.dK kvs))/\ks=kvs.map (fun p:Key × V=>keyD p.1)/\(∀ s,.str s∈ks->SOk s)/\RDs g U H ds (kvs.map (·.2)):=by
 conv=>lhs; unfold RD
theorem rd_dit {ks ds:List D} {v:V}:RD g U H (.dit ks ds) v ↔ ∃ a xs vs,v = .ref a /\ ¬ U a/\DitE g.w (H a) a ks xs vs/\RDs g U H ks (xs.map fun x=>.ref x.2.1)/\RDs g U H ds vs:=by
 conv=>lhs; unfold RD
theorem rds_nil {vs:List V}:RDs g U H [] vs↔vs=[]:=by unfold RDs; exact Iff.rfl
theorem rds_cons {d:D} {ds:List D} {vs:List V}:RDs g U H (d::ds) vs ↔ ∃ v vs',vs=v::vs'/\RD g U H d v/\RDs g U H ds vs':=by
 conv=>lhs; unfold RDs
theorem RDs.length:∀ {ds:List D} {vs:List V},RDs g U H ds vs->vs.length=ds.length
 | [],vs,h=>by rw [rds_nil.mp h]; rfl
 | d::ds,vs,h=>by
   obtain ⟨v,vs',rfl,_,q⟩:=rds_cons.mp h;simp [RDs.length q]
theorem RDs.append:∀ {ds es:List D} {vs us:List V},RDs g U H ds vs->RDs g U H es us->RDs g U H (ds++es) (vs++us)
 | [],_,vs,_,h,k=>by rw [rds_nil.mp h]; exact k
 | d::ds,_,vs,_,h,k=>by
   obtain ⟨v,vs',rfl,r,q⟩:=rds_cons.mp h;exact rds_cons.mpr ⟨v,_,rfl,r,RDs.append q k⟩
theorem RDs.get:∀ {ds:List D} {vs:List V} {i:Nat} {d:D},RDs g U H ds vs->ds[i]? = some d -> ∃ v,vs[i]? = some v/\RD g U H d v
 | [],_,_,_,_,e=>by simp at e
 | d::ds,vs,0,_,h,e=>by
   obtain ⟨v,vs',rfl,r,q⟩:=rds_cons.mp h;simp at e; subst e;exact ⟨v,by simp,r⟩
 | d::ds,vs,i+1,x,h,e=>by
   obtain ⟨v,vs',rfl,r,q⟩:=rds_cons.mp h;obtain ⟨u,h1,h2⟩:=RDs.get (i:=i) (d:=x) q (by simpa using e);exact ⟨u,by simpa using h1,h2⟩
end
def RZ (g:G) (U:Addr->Prop) (H:Hp) (ρ:List Addr):Z->V->Prop
 | .d x,v=>RD g U H x v
 | .r i,v=>∃ a,ρ[i]? = some a/\v = .ref a
 | .e a,v=>v = .ref a
def RZs (g:G) (U:Addr->Prop) (H:Hp) (ρ:List Addr):List Z->List V->Prop
 | [],vs=>vs=[]
 | x::xs,vs=>∃ v vs',vs=v::vs'/\RZ g U H ρ x v/\RZs g U H ρ xs vs'
section
variable {g:G} {U U':Addr->Prop} {H H':Hp} {ρ ρ':List Addr}
theorem M3 {α:Type} {l l':List α} (p:l<+:l') {i:Nat} {x:α} (e:l[i]? = some x):l'[i]? = some x:=by
 obtain ⟨t,rfl⟩:=p;obtain ⟨h,_⟩:=Xr0.mp e;rw [Xr2 h];exact e
theorem RZ.mono (s:Stb U H U' H') (p:ρ<+:ρ'):∀ {z:Z} {v:V},RZ g U H ρ z v->RZ g U' H' ρ' z v
 | .d x,_,h=>RD.mono s x _ h
 | .r i,_,⟨a,e,k⟩=>⟨a,M3 p e,k⟩
 | .e _,_,h=>h
theorem RZs.mono (s:Stb U H U' H') (p:ρ<+:ρ'):∀ {zs:List Z} {vs:List V},RZs g U H ρ zs vs->RZs g U' H' ρ' zs vs
 | [],_,h=>h
 | _::_,_,⟨v,vs',e,r,q⟩=>⟨v,vs',e,RZ.mono s p r,RZs.mono s p q⟩
theorem RZs.length:∀ {ds:List Z} {vs:List V},RZs g U H ρ ds vs->vs.length=ds.length
 | [],vs,h=>by rw [show vs=[] from h]; rfl
 | d::ds,vs,⟨v,vs',e,_,q⟩=>by rw [e]; simp [RZs.length q]
theorem RZs.append:∀ {ds es:List Z} {vs us:List V},RZs g U H ρ ds vs->RZs g U H ρ es us->RZs g U H ρ (ds++es) (vs++us)
 | [],_,vs,_,h,k=>by rw [show vs=[] from h]; exact k
 | d::ds,_,vs,_,⟨v,vs',e,r,q⟩,k=>by rw [e]; exact ⟨v,_,rfl,r,RZs.append q k⟩
theorem RZs.get:∀ {ds:List Z} {vs:List V} {i:Nat} {d:Z},RZs g U H ρ ds vs->ds[i]? = some d -> ∃ v,vs[i]? = some v/\RZ g U H ρ d v
 | [],_,_,_,_,e=>by simp at e
 | d::ds,vs,0,_,⟨v,vs',e',r,q⟩,e=>by
   simp at e; subst e;exact ⟨v,by rw [e']; simp,r⟩
 | d::ds,vs,i+1,x,⟨v,vs',e',r,q⟩,e=>by
   obtain ⟨u,h1,h2⟩:=RZs.get (i:=i) (d:=x) q (by simpa using e);exact ⟨u,by rw [e']; simpa using h1,h2⟩
end
def RO (g:G) (U:Addr->Prop) (H:Hp) (ρ:List Addr) (a:Addr):ZO->Prop
 | .gone=>True
 | .dl xs=>∃ vs,H a=some (.lst vs)/\RDs g U H xs vs
 | .zl zs=>∃ vs,H a=some (.lst vs)/\RZs g U H ρ zs vs
 | .dic ks ds=>∃ kvs:List (Key × V),H a=some (.dK kvs)/\ks=kvs.map (fun p=>keyD p.1)/\(∀ s,.str s∈ks->SOk s)/\RDs g U H ds (kvs.map (·.2))
 | .zdic ks zs=>∃ kvs:List (Key × V),H a=some (.dK kvs)/\ks=kvs.map (fun p=>keyD p.1)/\(∀ s,.str s∈ks->SOk s)/\RZs g U H ρ zs (kvs.map (·.2))
 | .dit ks ds=>∃ xs vs,DitE g.w (H a) a ks xs vs/\RDs g U H ks (xs.map fun x=>.ref x.2.1)/\RDs g U H ds vs
 | .ins c fs=>g.has c=true/\(∀ p∈fs,p.1∈X0 c) /\ ∃ dx fvs,H a=some (.ins (g.cad c) dx fvs)/\fvs.map (·.1)=(fs.map (·.1)).map fnm/\RZs g U H ρ (fs.map (·.2)) (fvs.map (·.2))
structure Fr where
 P:Addr->Prop
 U0:Addr->Prop
 H0:Hp
def UO (F:Fr) (ρ:List Addr) (zh:ZH):Addr->Prop:=fun a=>F.P a \/ ∃ (i:Nat) (o:ZO),ρ[i]? = some a/\zh[i]? = some o/\o.live=true
structure RelH (g:G) (F:Fr) (ρ:List Addr) (zh:ZH) (H:Hp):Prop where
 len:ρ.length=zh.length
 nd:ρ.Nodup
 own:∀ (i:Nat) (a:Addr) (o:ZO),ρ[i]? = some a->zh[i]? = some o->RO g (UO F ρ zh) H ρ a o
 prot:∀ a,F.P a->H a=F.H0 a /\ ∃ o,F.H0 a=some o
 notp:∀ a∈ρ,¬ F.P a
 trk:∀ a∈ρ,∃ o,H a=some o
 stb:Stb F.U0 F.H0 (UO F ρ zh) H
def RelS (g:G) (U:Addr->Prop) (H:Hp) (ρ:List Addr) (zσ:ZS) (σ:L2.St):Prop :=
 σ.length=zσ.length /\ ∀ (i:Nat) (z:Z),zσ[i]? = some (some z) -> ∃ v,σ[i]? = some (some v)/\RZ g U H ρ z v
structure Ext (F:Fr) (ρ:List Addr) (zh:ZH) (H:Hp) (ρ':List Addr) (zh':ZH) (H':Hp):Prop where
 pre:ρ<+:ρ'
 stb:Stb (UO F ρ zh) H (UO F ρ' zh') H'
 trk:∀ a o,H a=some o -> ∃ o',H' a=some o'
 fresh:∀ a∈ρ',a∈ρ\/H a=none
theorem Ext.refl {F:Fr} {ρ:List Addr} {zh:ZH} {H:Hp}:Ext F ρ zh H ρ zh H:=⟨Xr5 _,Stb.refl,fun _ o h=>⟨o,h⟩,fun _ h=>.inl h⟩
theorem Ext.trans {F:Fr} {ρ ρ1 ρ2:List Addr} {zh zh1 zh2:ZH} {H H1 H2:Hp} (a:Ext F ρ zh H ρ1 zh1 H1) (b:Ext F ρ1 zh1 H1 ρ2 zh2 H2):Ext F ρ zh H ρ2 zh2 H2 :=
 ⟨a.pre.trans b.pre,a.stb.trans b.stb,fun x o h=>let ⟨o1,h1⟩:=a.trk x o h; b.trk x o1 h1,fun x h=>by
   rcases b.fresh x h with h | h
   . exact a.fresh x h
   . refine .inr ?_;cases k:H x with
     | none=>rfl
     | some o =>
       obtain ⟨o1,h1⟩:=a.trk x o k
       rw [h] at h1; cases h1⟩
theorem RelS.mono {g:G} {F:Fr} {ρ ρ':List Addr} {zh zh':ZH} {H H':Hp} {zσ:ZS} {σ:L2.St} (e:Ext F ρ zh H ρ' zh' H') (r:RelS g (UO F ρ zh) H ρ zσ σ):RelS g (UO F ρ' zh') H' ρ' zσ σ :=
 ⟨r.1,fun i z h=>let ⟨v,h1,h2⟩:=r.2 i z h; ⟨v,h1,RZ.mono e.stb e.pre h2⟩⟩
theorem RelH.live {g:G} {F:Fr} {ρ:List Addr} {zh:ZH} {H:Hp} (r:RelH g F ρ zh H):∀ a,UO F ρ zh a -> ∃ o,H a=some o:=by
 rintro a (h | ⟨i,o,h1,_,_⟩)
 . obtain ⟨e,o,k⟩:=r.prot a h;exact ⟨o,e.trans k⟩
 . exact r.trk a (Xq8 h1)
def RX (g:G) (U:Addr->Prop) (H:Hp) (x:ZX) (cls:Value) (dx:Option Addr):Prop :=
 cls = .ref (g.cad x.c)/\g.hasX x.c=true/\((x.vs=[]/\dx=none)\/x.vs≠[] /\ ∃ d fvs,dx=some d /\ ¬ U d/\H d=some (.xd fvs)/\fvs.map (·.1)=(X0 x.c).map fnm/\RDs g U H x.vs (fvs.map (·.2)))
inductive Out (α:Type) where
 | ok (a:α) (h:ZH)
 | exc (x:ZX) (h:ZH)
 | bad
inductive OutS where
 | nx (s:ZS) (h:ZH)
 | rt (z:Z) (h:ZH)
 | bk (s:ZS) (h:ZH)
 | ct (s:ZS) (h:ZH)
 | exc (x:ZX) (s:ZS) (h:ZH)
 | bad
abbrev DE:=ZS->ZH->Out Z
abbrev DT:=ZS->ZH->Out Bool
abbrev DA:=ZS->ZH->Out (List Z)
abbrev DS:=ZS->ZH->OutS
def Post (g:G) (F:Fr) (W:WX) (ρ:List Addr) (zσ:ZS) (zh:ZH) (σ:L2.St) (H:Hp) (out:Out Z) (Q:VK):Prop :=
 match out with
 | .ok z zh'=>∀ ρ' v H',Ext F ρ zh H ρ' zh' H'->RelH g F ρ' zh' H'->RZ g (UO F ρ' zh') H' ρ' z v->Q v H'
 | .exc x zh'=>∀ ρ' cls dx H',Ext F ρ zh H ρ' zh' H'->RelH g F ρ' zh' H'->RX g (UO F ρ' zh') H' x cls dx->W cls dx σ H'
 | .bad=>False
def low (g:G) (F:Fr) (W:WX) (d:DE):TE:=fun σ H Q=>∃ ρ zσ zh,RelH g F ρ zh H/\RelS g (UO F ρ zh) H ρ zσ σ/\Post g F W ρ zσ zh σ H (d zσ zh) Q
section
variable {g:G} {F:Fr} {U U':Addr->Prop} {ρ ρ':List Addr} {zh zh':ZH} {H H':Hp}
theorem RO.mono {a:Addr} (s:Stb U H U' H') (p:ρ<+:ρ') (e:H' a=H a):∀ {o:ZO},RO g U H ρ a o->RO g U' H' ρ' a o
 | .gone,h=>h
 | .dl xs,⟨vs,h,r⟩=>⟨vs,e.trans h,RDs.mono s xs vs r⟩
 | .zl xs,⟨vs,h,r⟩=>⟨vs,e.trans h,RZs.mono s p r⟩
 | .dic ks ds,⟨kvs,h,k,k',r⟩=>⟨kvs,e.trans h,k,k',RDs.mono s _ _ r⟩
 | .zdic ks zs,⟨kvs,h,k,k',r⟩=>⟨kvs,e.trans h,k,k',RZs.mono s p r⟩
 | .dit ks ds,⟨xs,vs,h,r1,r2⟩=>⟨xs,vs,by rw [e]; exact h,RDs.mono s _ _ r1,RDs.mono s _ _ r2⟩
 | .ins c fs,⟨hc,hf,dx,fvs,h,k,r⟩=>⟨hc,hf,dx,fvs,e.trans h,k,RZs.mono s p r⟩
theorem QC7 {p:Addr} {zo:ZO} (l:ρ.length=zh.length) {a:Addr} (h:UO F (ρ++[p]) (zh++[zo]) a):UO F ρ zh a\/a=p:=by
 rcases h with h | ⟨i,o,h1,h2,h3⟩
 . exact .inl (.inl h)
 . by_cases hi:i<ρ.length
   . rw [Xr2 hi] at h1;rw [Xr2 (by omega)] at h2;exact .inl (.inr ⟨i,o,h1,h2,h3⟩)
   . have e:i=ρ.length:=by
       obtain ⟨hl,_⟩:=Xr0.mp h1;simp at hl;omega
     subst e;simp at h1;exact .inr h1.symm
theorem RelH.notU_new (r:RelH g F ρ zh H) {p:Addr} (n:H p=none):¬ UO F ρ zh p:=fun u=>by
 obtain ⟨o,e⟩:=r.live p u;rw [n] at e; cases e
theorem RelH.newF (r:RelH g F ρ zh H) {p:Addr} {o:HO} (n:H p=none):RelH g F ρ zh (upd H p o)/\Ext F ρ zh H ρ zh (upd H p o) /\ ¬ UO F ρ zh p:=by
 have nu:=r.notU_new n;have s:Stb (UO F ρ zh) H (UO F ρ zh) (upd H p o):=fun a u e nua=>⟨by rw [upd_ne (ne_of_none e n)]; exact e,nua⟩;refine ⟨⟨r.len,r.nd,fun i a zo h1 h2=>?_,fun a h=>?_,r.notp,fun a h=>?_,r.stb.trans s⟩,⟨Xr5 _,s,fun a u e=>⟨u,by rw [upd_ne (ne_of_none e n)]; exact e⟩,fun _ h=>.inl h⟩,nu⟩
 . have ha:a≠p:=by
     obtain ⟨u,e⟩:=r.trk a (Xq8 h1);exact ne_of_none e n
   exact RO.mono s (Xr5 _) (upd_ne ha) (r.own i a zo h1 h2)
 . obtain ⟨e,u,k⟩:=r.prot a h;exact ⟨by rw [upd_ne (ne_of_none (e.trans k) n)]; exact e,u,k⟩
 . obtain ⟨u,e⟩:=r.trk a h;exact ⟨u,by rw [upd_ne (ne_of_none e n)]; exact e⟩
theorem RelH.newO (r:RelH g F ρ zh H) {p:Addr} {o:HO} {zo:ZO} (n:H p=none)
   (h:RO g (UO F (ρ++[p]) (zh++[zo])) (upd H p o) (ρ++[p]) p zo) :
   RelH g F (ρ++[p]) (zh++[zo]) (upd H p o)/\Ext F ρ zh H (ρ++[p]) (zh++[zo]) (upd H p o):=by
 have hp:ρ<+:ρ++[p]:=List.prefix_append _ _
 have s:Stb (UO F ρ zh) H (UO F (ρ++[p]) (zh++[zo])) (upd H p o):=fun a u e nua =>
   ⟨by rw [upd_ne (ne_of_none e n)]; exact e,fun z=>(QC7 r.len z).elim nua (ne_of_none e n)⟩
 have np:p∉ρ:=fun z=>by
   obtain ⟨u,e⟩:=r.trk p z;rw [n] at e; cases e
 refine ⟨⟨by simp [r.len],?_,fun i a o' h1 h2=>?_,fun a h=>?_,fun a h z=>?_,fun a h=>?_,r.stb.trans s⟩,⟨hp,s,fun a u e=>⟨u,by rw [upd_ne (ne_of_none e n)]; exact e⟩,fun a h=>?_⟩⟩
 . rw [List.nodup_append];refine ⟨r.nd,by simp,fun a ha b hb e=>np ?_⟩;have:b=p:=by simpa using hb
   rw [<- this,<- e]; exact ha
 . by_cases hi:i<ρ.length
   . rw [Xr2 hi] at h1;rw [Xr2 (by have:=r.len; omega)] at h2
     have ha:a≠p:=by
       obtain ⟨u,e⟩:=r.trk a (Xq8 h1);exact ne_of_none e n
     exact RO.mono s hp (upd_ne ha) (r.own i a o' h1 h2)
   . have e:i=ρ.length:=by
       obtain ⟨hl,_⟩:=Xr0.mp h1;simp at hl;omega
     subst e;simp at h1;subst h1;rw [r.len] at h2;simp at h2;subst h2;exact h
 . obtain ⟨e,u,k⟩:=r.prot a h;exact ⟨by rw [upd_ne (ne_of_none (e.trans k) n)]; exact e,u,k⟩
 . rcases List.mem_append.mp h with h | h
   . exact r.notp a h z
   . have e:a=p:=by simpa using h
     obtain ⟨e1,u,k⟩:=r.prot a z;rw [e] at e1 k;rw [n,k] at e1; cases e1
 . rcases List.mem_append.mp h with h | h
   . obtain ⟨u,e⟩:=r.trk a h;exact ⟨u,by rw [upd_ne (ne_of_none e n)]; exact e⟩
   . have e:a=p:=by simpa using h
     exact ⟨o,by rw [e]; exact upd_same⟩
 . rcases List.mem_append.mp h with h | h
   . exact .inl h
   . have e:a=p:=by simpa using h
     exact .inr (by rw [e]; exact n)
theorem Ql8 {i:Nat} {zo:ZO} {a:Addr} (h:UO F ρ (zh.set i zo) a) (l:∃ o,zh[i]? = some o/\o.live=true):UO F ρ zh a:=by
 rcases h with h | ⟨j,o,h1,h2,h3⟩
 . exact .inl h
 . by_cases e:j=i
   . subst e;obtain ⟨o',k1,k2⟩:=l;exact .inr ⟨j,o',h1,k1,k2⟩
   . rw [List.getElem?_set_ne (Ne.symm e)] at h2;exact .inr ⟨j,o,h1,h2,h3⟩
theorem RelH.set (r:RelH g F ρ zh H) {i:Nat} {a:Addr} {o:HO} {zo zo':ZO} (h1:ρ[i]? = some a) (h2:zh[i]? = some zo) (hl:zo.live=true)
   (h:RO g (UO F ρ (zh.set i zo')) (upd H a o) ρ a zo') :
   RelH g F ρ (zh.set i zo') (upd H a o)/\Ext F ρ zh H ρ (zh.set i zo') (upd H a o):=by
 have ua:UO F ρ zh a:=.inr ⟨i,zo,h1,h2,hl⟩
 have s:Stb (UO F ρ zh) H (UO F ρ (zh.set i zo')) (upd H a o):=fun b u e nub =>
   ⟨by rw [upd_ne (fun z:b=a=>nub (by rw [z]; exact ua))]; exact e,fun z=>nub (Ql8 z ⟨zo,h2,hl⟩)⟩
 have npa:¬ F.P a:=r.notp a (Xq8 h1);refine ⟨⟨by simp [r.len],r.nd,fun j b o' k1 k2=>?_,fun b k=>?_,r.notp,fun b k=>?_,r.stb.trans s⟩,⟨Xr5 _,s,fun b u k=>?_,fun _ h=>.inl h⟩⟩
 . by_cases e:j=i
   . subst e;rw [h1] at k1; cases k1;obtain ⟨li,_⟩:=Xr0.mp h2;rw [Xr3 li] at k2;cases k2;exact h
   . rw [List.getElem?_set_ne (Ne.symm e)] at k2
     have hb:b≠a:=fun z=>by
       rw [z] at k1;obtain ⟨l1,e1⟩:=Xr0.mp k1;obtain ⟨l2,e2⟩:=Xr0.mp h1;exact e ((List.getElem_inj r.nd).mp (e1.trans e2.symm))
     exact RO.mono s (Xr5 _) (upd_ne hb) (r.own j b o' k1 k2)
 . obtain ⟨e,u,k'⟩:=r.prot b k;exact ⟨by rw [upd_ne (fun z:b=a=>npa (by rw [<- z]; exact k))]; exact e,u,k'⟩
 . by_cases e:b=a
   . exact ⟨o,by rw [e]; exact upd_same⟩
   . rw [upd_ne e]; exact r.trk b k
 . by_cases e:b=a
   . exact ⟨o,by rw [e]; exact upd_same⟩
   . rw [upd_ne e]; exact ⟨u,k⟩
theorem RelH.freeze (r:RelH g F ρ zh H) {i:Nat} {zo:ZO} (h2:zh[i]? = some zo) (hl:zo.live=true) :
   RelH g F ρ (zh.set i .gone) H/\Ext F ρ zh H ρ (zh.set i .gone) H:=by
 have s:Stb (UO F ρ zh) H (UO F ρ (zh.set i .gone)) H:=fun b u e nub=>⟨e,fun z=>nub (Ql8 z ⟨zo,h2,hl⟩)⟩;refine ⟨⟨by simp [r.len],r.nd,fun j b o' k1 k2=>?_,r.prot,r.notp,r.trk,r.stb.trans s⟩,⟨Xr5 _,s,fun _ u k=>⟨u,k⟩,fun _ h=>.inl h⟩⟩
 by_cases e:j=i
 . subst e;obtain ⟨li,_⟩:=Xr0.mp h2;rw [Xr3 li] at k2;cases k2
   trivial
 . rw [List.getElem?_set_ne (Ne.symm e)] at k2;exact RO.mono s (Xr5 _) rfl (r.own j b o' k1 k2)
theorem RelH.gone_notU (r:RelH g F ρ zh H) {i:Nat} {a:Addr} (h1:ρ[i]? = some a):¬ UO F ρ (zh.set i .gone) a:=by
 rintro (h | ⟨j,o,k1,k2,k3⟩)
 . exact r.notp a (Xq8 h1) h
 . have e:j=i:=by
     obtain ⟨l1,e1⟩:=Xr0.mp k1;obtain ⟨l2,e2⟩:=Xr0.mp h1;exact (List.getElem_inj r.nd).mp (e1.trans e2.symm)
   subst e
   have li:j<zh.length:=by
     obtain ⟨l,_⟩:=Xr0.mp k2;simpa using l
   rw [Xr3 li] at k2;cases k2;cases k3
end
section
variable {g:G} {F:Fr} {W:WX} {ρ ρ1:List Addr} {zσ:ZS} {zh zh1:ZH} {σ:L2.St} {H H1:Hp}
def Out.bnd {α β:Type} (o:Out α) (f:α->ZH->Out β):Out β :=
 match o with
 | .ok a h=>f a h
 | .exc x h=>.exc x h
 | .bad=>.bad
theorem Post.shift (e:Ext F ρ zh H ρ1 zh1 H1) {out:Out Z} {Q:VK} (p:Post g F W ρ zσ zh σ H out Q):Post g F W ρ1 zσ zh1 σ H1 out Q:=by
 cases out with
 | ok z h=>exact fun ρ' v H' e'=>p ρ' v H' (e.trans e')
 | exc x h=>exact fun ρ' c d H' e'=>p ρ' c d H' (e.trans e')
 | bad=>exact p
theorem Post.imp {out:Out Z} {Q Q':VK} (p:Post g F W ρ zσ zh σ H out Q) (h:∀ v H',Q v H'->Q' v H'):Post g F W ρ zσ zh σ H out Q':=by
 cases out with
 | ok z h1=>exact fun ρ' v H' e1 e2 e3=>h _ _ (p ρ' v H' e1 e2 e3)
 | exc x h=>exact p
 | bad=>exact p
theorem Post.bnd {out:Out Z} {f:Z->ZH->Out Z} {Q K:VK} (p:Post g F W ρ zσ zh σ H (out.bnd f) Q)
   (h:∀ ρ1 z zh1 v H1,Ext F ρ zh H ρ1 zh1 H1->RelH g F ρ1 zh1 H1->RZ g (UO F ρ1 zh1) H1 ρ1 z v->Post g F W ρ1 zσ zh1 σ H1 (f z zh1) Q->K v H1) :
   Post g F W ρ zσ zh σ H out K:=by
 cases out with
 | ok z zh1=>exact fun ρ' v H' e1 e2 e3=>h ρ' z zh1 v H' e1 e2 e3 (Post.shift e1 p)
 | exc x h=>exact p
 | bad=>exact p
theorem Post.done (r:RelH g F ρ zh H) {z:Z} {v:V} {Q:VK} (p:Post g F W ρ zσ zh σ H (.ok z zh) Q) (rz:RZ g (UO F ρ zh) H ρ z v):Q v H :=
 p ρ v H Ext.refl r rz
end
def ZE (g:G) (F:Fr) (X:Cx) (W:WX) (e:Expr) (d:DE):Prop:=PE X e (low g F W d)
theorem PE.imp {X:Cx} {e:Expr} {t t':TE} (h:PE X e t) (k:∀ σ H Q,t' σ H Q->t σ H Q):PE X e t' :=
 ⟨fun pins s σ H Q I q=>h.run pins s σ H Q I (k σ H Q q)⟩
section
variable {g:G} {F:Fr} {U:Addr->Prop} {ρ:List Addr} {zh:ZH} {H:Hp}
theorem rz_non {v:V}:RZ g U H ρ (.d .non) v↔v = .non:=rd_non (g:=g) (U:=U) (H:=H)
theorem rz_bl {b:Bool} {v:V}:RZ g U H ρ (.d (.bl b)) v↔v = .bl b:=rd_bl (g:=g) (U:=U) (H:=H)
theorem rz_int {i:Int} {v:V}:RZ g U H ρ (.d (.int i)) v↔v = .int i:=rd_int (g:=g) (U:=U) (H:=H)
theorem rz_str {s:List Nat} {v:V}:RZ g U H ρ (.d (.str s)) v↔v = .str (mkS s)/\SOk s:=rd_str (g:=g) (U:=U) (H:=H)
def B5 (z:Z) (h:ZH):Option (List D) :=
 match z with
 | .d (.lst xs)=>some xs
 | .r i=>match h[i]? with
   | some (.dl xs)=>some xs
   | _=>none
 | _=>none
def P7 (z:Z) (h:ZH):Option (List D) :=
 match z with
 | .d (.lst xs)=>some xs
 | .d (.tup xs)=>some xs
 | .d (.scr xs)=>some xs
 | .r i=>match h[i]? with
   | some (.dl xs)=>some xs
   | _=>none
 | _=>none
theorem O9 (r:RelH g F ρ zh H) {z:Z} {v:V} (rz:RZ g (UO F ρ zh) H ρ z v) {xs:List D} (h:B5 z zh=some xs) :
   ∃ a vs,v = .ref a/\H a=some (.lst vs)/\RDs g (UO F ρ zh) H xs vs:=by
 unfold B5 at h
 split at h
 . cases h;obtain ⟨a,vs,e,_,q,k⟩:=rd_lst.mp rz;exact ⟨a,vs,e,q,k⟩
 . rename_i i;obtain ⟨a,e,k⟩:=rz;cases hz:zh[i]? with
   | none=>rw [hz] at h; cases h
   | some o =>
     rw [hz] at h;cases o with
     | dl ys =>
       cases h;obtain ⟨vs,q,z⟩:=r.own i a _ e hz;exact ⟨a,vs,k,q,z⟩
     | _=>cases h
 . cases h
theorem Qf8 (r:RelH g F ρ zh H) {z:Z} {v:V} (rz:RZ g (UO F ρ zh) H ρ z v) {xs:List D} (h:P7 z zh=some xs) :
   ∃ a vs,v = .ref a/\(SqL g.K H a vs\/SqT g.K H a vs)/\RDs g (UO F ρ zh) H xs vs:=by
 unfold P7 at h
 split at h
 . cases h;obtain ⟨a,vs,e,_,q,k⟩:=rd_lst.mp rz;exact ⟨a,vs,e,.inl (SqL.of q),k⟩
 . cases h;obtain ⟨a,vs,e,_,q,k⟩:=rd_tup.mp rz;exact ⟨a,vs,e,.inr (.inl q),k⟩
 . cases h;obtain ⟨a,vs,e,q,k⟩:=rd_scr.mp rz;exact ⟨a,vs,e,.inl (scL q),k⟩
 . rename_i i;obtain ⟨a,e,k⟩:=rz;cases hz:zh[i]? with
   | none=>rw [hz] at h; cases h
   | some o =>
     rw [hz] at h;cases o with
     | dl ys =>
       cases h;obtain ⟨vs,q,z⟩:=r.own i a _ e hz;exact ⟨a,vs,k,.inl (SqL.of q),z⟩
     | _=>cases h
 . cases h
def N5 (z:Z) (h:ZH):Option D :=
 match z with
 | .d x=>some x
 | .r i=>match h[i]? with
   | some (.dl xs)=>some (.lst xs)
   | _=>none
 | .e _=>none
end
mutual
def D.py:D->Option PyData
 | .non=>some .none
 | .bl b=>some (.bool b)
 | .int i=>some (.int i)
 | .str s=>some (.str (mkS s))
 | .tup xs=>(D.pys xs).map .tuple
 | .lst xs=>(D.pys xs).map .list
 | .scr xs=>(D.pys xs).map .list
 | _=>none
def D.pys:List D->Option (List PyData)
 | []=>some []
 | x::xs=>(D.py x).bind fun p=>(D.pys xs).bind fun ps=>some (p::ps)
end
section
variable {g:G} {U:Addr->Prop} {H:Hp}
mutual
theorem dp_of:∀ (d:D) (v:V) (p:PyData),RD g U H d v->d.py=some p->Dp g.K H v p/\p.canLay0=true
 | .non,v,p,h,e=>by
   rw [rd_non.mp h]; unfold D.py at e; cases e; exact ⟨.non,rfl⟩
 | .bl b,v,p,h,e=>by
   rw [rd_bl.mp h]; unfold D.py at e; cases e; exact ⟨.bl b,rfl⟩
 | .int i,v,p,h,e=>by
   rw [rd_int.mp h]; unfold D.py at e; cases e; exact ⟨.int i,rfl⟩
 | .str s,v,p,h,e=>by
   obtain ⟨k,ok,_⟩:=rd_str.mp h;rw [k]; unfold D.py at e; cases e;refine ⟨.str _,?_⟩;unfold PyData.canLay0 PyData.strOk;simp only [mkS,Array.all_eq_true_iff_forall_mem,List.mem_toArray,decide_eq_true_eq];intro c hc;exact ok c hc
 | .tup xs,v,p,h,e=>by
   obtain ⟨a,vs,rfl,_,q,k⟩:=rd_tup.mp h;unfold D.py at e;cases hp:D.pys xs with
   | none=>rw [hp] at e; cases e
   | some ps =>
     rw [hp] at e; cases e;obtain ⟨k1,k2⟩:=Qp8 xs vs ps k hp;exact ⟨.tup (.inl q) k1,by unfold PyData.canLay0; exact k2⟩
 | .lst xs,v,p,h,e=>by
   obtain ⟨a,vs,rfl,_,q,k⟩:=rd_lst.mp h;unfold D.py at e;cases hp:D.pys xs with
   | none=>rw [hp] at e; cases e
   | some ps =>
     rw [hp] at e; cases e;obtain ⟨k1,k2⟩:=Qp8 xs vs ps k hp;exact ⟨.lst (.inl (.inl q)) k1,by unfold PyData.canLay0; exact k2⟩
 | .scr xs,v,p,h,e=>by
   obtain ⟨a,vs,rfl,q,k⟩:=rd_scr.mp h;unfold D.py at e;cases hp:D.pys xs with
   | none=>rw [hp] at e; cases e
   | some ps =>
     rw [hp] at e; cases e;obtain ⟨k1,k2⟩:=Qp8 xs vs ps k hp;exact ⟨.lst (scL q) k1,by unfold PyData.canLay0; exact k2⟩
 | .tupN _,_,_,_,e=>by unfold D.py at e; cases e
 | .obj _ _,_,_,_,e=>by unfold D.py at e; cases e
 | .dic _ _,_,_,_,e=>by unfold D.py at e; cases e
 | .dit _ _,_,_,_,e=>by unfold D.py at e; cases e
 | .cls _,_,_,_,e=>by unfold D.py at e; cases e
theorem Qp8:∀ (ds:List D) (vs:List V) (ps:List PyData),RDs g U H ds vs->D.pys ds=some ps->DpAll g.K H vs ps/\PyData.canLayAll0 ps=true
 | [],vs,ps,h,e=>by
   rw [rds_nil.mp h]; unfold D.pys at e; cases e; exact ⟨.nil,rfl⟩
 | d :: ds,vs,ps,h,e=>by
   obtain ⟨v,vs',rfl,r,q⟩:=rds_cons.mp h;unfold D.pys at e;cases hp:D.py d with
   | none=>rw [hp] at e; cases e
   | some p =>
     rw [hp] at e;cases hq:D.pys ds with
     | none=>rw [hq] at e; cases e
     | some qs =>
       rw [hq] at e; cases e;obtain ⟨k1,k2⟩:=dp_of d v p r hp;obtain ⟨k3,k4⟩:=Qp8 ds vs' qs q hq;exact ⟨.cons k1 k3,by unfold PyData.canLayAll0; rw [k2,k4]; rfl⟩
end
end
def peq (x y:D):Option Bool :=
 match x.py,y.py with
 | some p,some q=>if p.depth<=64/\q.depth<=64 then some (PyData.eqv p q) else none
 | _,_=>none
section
variable {g:G} {F:Fr} {X:Cx} {W:WX} {a b c:Expr} {da db dc:DE} {pos:Pos}
def Q7 (i:Nat):DE:=fun s h=>match s[i]? with
 | some (some z)=>.ok z h
 | _=>.bad
def dC (x:D):DE:=fun _ h=>.ok (.d x) h
theorem Q3 (i:Nat) {x:Str} (hN:X.N[i]? = some x:=by rfl) (hv:Vis X.env.scope x:=by first | exact Or.inl rfl | exact Or.inr (Or.inl rfl) | exact Or.inr (Or.inr rfl))
   (hd:(x == ("__debug__" : Str))=false:=by decide) (hcd:(x == ("__classdict__" : Str))=false:=by decide):ZE g F X W (.Name x pos) (Q7 i):=by
 refine PE.imp (pe_var hN hv hd hcd) fun σ H Q ⟨ρ,zσ,zh,RH,RS,p⟩=>?_;unfold Q7 at p;cases e:zσ[i]? with
 | none=>rw [e] at p; exact p.elim
 | some o =>
   rw [e] at p;cases o with
   | none=>exact p.elim
   | some z =>
     obtain ⟨v,h1,h2⟩:=RS.2 i z e;exact ⟨v,h1,Post.done RH p h2⟩
theorem z_c {e:Expr} {x:D} {v:V} (h:PE X e (tC v)) (k:∀ (U:Addr->Prop) (H:Hp),RD g U H x v):ZE g F X W e (dC x) :=
 PE.imp h fun σ H Q ⟨ρ,zσ,zh,RH,RS,p⟩=>Post.done RH p (k _ _)
theorem X4 {i:Int} {j:Nat}:ZE g F X W (.Constant (.int i) j pos) (dC (.int i)):=z_c pe_int fun _ _=>rd_int.mpr rfl
theorem QL7 {b:Bool} {j:Nat}:ZE g F X W (.Constant (.bool b) j pos) (dC (.bl b)):=z_c pe_bl fun _ _=>rd_bl.mpr rfl
theorem z_non {j:Nat}:ZE g F X W (.Constant .none j pos) (dC .non):=z_c pe_non fun _ _=>rd_non.mpr rfl
def sOkB (s:List Nat):Bool:=s.all (fun c=>decide (c<1114112)) && decide (s.length<=1000000)
theorem SOk.of {s:List Nat} (h:sOkB s=true):SOk s:=by
 unfold sOkB at h;simp only [Bool.and_eq_true,List.all_eq_true,decide_eq_true_eq] at h;exact ⟨h.1,by have:=h.2; rw [sizeLine_eq]; omega⟩
theorem P4 (s:List Nat) {x:Str} {j:Nat} (h:x=mkS s:=by decide +kernel) (ok:sOkB s=true:=by decide +kernel):ZE g F X W (.Constant (.str x) j pos) (dC (.str s)):=by
 subst h;exact z_c pe_str fun _ _=>rd_str.mpr ⟨rfl,.of ok⟩
abbrev Op2:=Z->Z->ZH->Out Z
def Y1 (op:Op2) (da db:DE):DE:=fun s h=>(da s h).bnd fun x h1=>(db s h1).bnd fun y h2=>op x y h2
def LowR2 (g:G) (r:R2) (op:Op2):Prop:=∀ {F:Fr} {W:WX} {ρ:List Addr} {zσ:ZS} {zh:ZH} {σ:L2.St} {H:Hp} {zx zy:Z} {x y:V} {Q:VK},
 RelH g F ρ zh H->RZ g (UO F ρ zh) H ρ zx x->RZ g (UO F ρ zh) H ρ zy y->Post g F W ρ zσ zh σ H (op zx zy zh) Q->r x y H Q
theorem Qt3 {r:R2} {op:Op2} (hl:LowR2 g r op) {σ:L2.St} {H:Hp} {Q:VK} (h:low g F W (Y1 op da db) σ H Q):tOp r (low g F W da) (low g F W db) σ H Q:=by
 obtain ⟨ρ,zσ,zh,RH,RS,p⟩:=h;refine ⟨ρ,zσ,zh,RH,RS,Post.bnd p fun ρ1 x zh1 v H1 e1 R1 rx p1=>?_⟩;refine ⟨ρ1,zσ,zh1,R1,RS.mono e1,Post.bnd p1 fun ρ2 y zh2 u H2 e2 R2 ry p2=>?_⟩;exact hl R2 (RZ.mono e2.stb e2.pre rx) ry p2
theorem QT8 {op:Operator} {r:R2} {zop:Op2} (ho:OpR X (binaryOp op) r) (hl:LowR2 g r zop) (ha:ZE g F X W a da) (hb:ZE g F X W b db):ZE g F X W (.BinOp a op b pos) (Y1 zop da db) :=
 PE.imp (pe_op ho ha hb) fun _ _ _ h=>Qt3 hl h
theorem z_cmp {op:CmpOp} {r:R2} {zop:Op2} (ho:OpR X (compareOp op) r) (hl:LowR2 g r zop) (ha:ZE g F X W a da) (hb:ZE g F X W b db)
   (hm:behindInMarks op b=false:=by first | exact nomark _ (by decide) (by decide) | rfl):ZE g F X W (.Compare a [op] [b] pos) (Y1 zop da db) :=
 PE.imp (pe_cmpR ho ha hb hm) fun _ _ _ h=>Qt3 hl h
theorem LowR2.or {r r':R2} {op op':Op2} (h:LowR2 g r op) (h':LowR2 g r' op'):LowR2 g (fun x y H Q=>r x y H Q\/r' x y H Q) (fun x y h=>match op x y h with | .bad=>op' x y h | o=>o):=by
 intro F W ρ zσ zh σ H zx zy x y Q RH rx ry p;dsimp only at p;cases e:op zx zy zh with
 | bad=>rw [e] at p; exact .inr (h' RH rx ry p)
 | ok z h1=>rw [e] at p; exact .inl (h (σ:=σ) RH rx ry (by rw [e]; exact p))
 | exc z h1=>rw [e] at p; exact .inl (h (σ:=σ) RH rx ry (by rw [e]; exact p))
def Qp5 (c:Int->Int->Bool) (f:Int->Int->D):Op2:=fun x y h=>match x,y with
 | .d (.int i),.d (.int j)=>if c i j=true then .ok (.d (f i j)) h else .bad
 | _,_=>.bad
theorem QC8 {c:Int->Int->Bool} {f:Int->Int->D} {r:R2} (k:∀ i j H Q v,c i j=true->(∀ (U:Addr->Prop),RD g U H (f i j) v)->Q v H->r (.int i) (.int j) H Q)
   (hv:∀ i j,∃ v,∀ (U:Addr->Prop) (H:Hp),RD g U H (f i j) v):LowR2 g r (Qp5 c f):=by
 intro F W ρ zσ zh σ H zx zy x y Q RH rx ry p;unfold Qp5 at p
 split at p
 . rename_i i j;rw [rz_int.mp rx,rz_int.mp ry]
   split at p
   . rename_i hc;obtain ⟨v,hv⟩:=hv i j;exact k i j H Q v hc (fun U=>hv U H) (Post.done RH p (hv _ _))
   . exact p.elim
 . exact p.elim
theorem QM4 {f:Int->Int->Int}:LowR2 g (rI0 fun i j=>.int (f i j)) (Qp5 (fun _ _=>true) fun i j=>.int (f i j)) :=
 QC8 (fun i j H Q v _ h q=>⟨i,j,rfl,rfl,by have e:=rd_int.mp (h fun _=>True); subst e; exact q⟩) fun i j=>⟨_,fun _ _=>rd_int.mpr rfl⟩
theorem Qf9 {C:Int->Int->Prop} {c:Int->Int->Bool} {f:Int->Int->Int} (hc:∀ i j,c i j=true->C i j):LowR2 g (rI C fun i j=>.int (f i j)) (Qp5 c fun i j=>.int (f i j)) :=
 QC8 (fun i j H Q v k h q=>⟨i,j,rfl,rfl,hc i j k,by have e:=rd_int.mp (h fun _=>True); subst e; exact q⟩) fun i j=>⟨_,fun _ _=>rd_int.mpr rfl⟩
theorem T5 {f:Int->Int->Bool}:LowR2 g (rI0 fun i j=>.bl (f i j)) (Qp5 (fun _ _=>true) fun i j=>.bl (f i j)) :=
 QC8 (fun i j H Q v _ h q=>⟨i,j,rfl,rfl,by have e:=rd_bl.mp (h fun _=>True); subst e; exact q⟩) fun i j=>⟨_,fun _ _=>rd_bl.mpr rfl⟩
def QT9:Op2:=Qp5 (fun _ _=>true) fun i j=>.int (i - j)
def QU0:Op2:=Qp5 (fun i j=>decide (i.natAbs<18446744073709551616) || decide (j.natAbs<18446744073709551616)) fun i j=>.int (i*j)
def H7:Op2:=Qp5 (fun _ j=>decide (0<j)) fun i j=>.int (i % j)
def QM5:Op2:=Qp5 (fun _ j=>decide (0<j) && decide (j<1073741824)) fun i j=>.int (i / j)
def QM6:Op2:=Qp5 (fun i j=>decide (0<=j) && decide (j<=1000000) && decide (i.natAbs<18446744073709551616)) fun i j=>.int (i ^ j.toNat)
def QR0:Op2:=Qp5 (fun _ _=>true) fun i j=>.bl (decide (i<j))
def Qw3:Op2:=Qp5 (fun _ _=>true) fun i j=>.bl (decide (i<=j))
def opGt:Op2:=Qp5 (fun _ _=>true) fun i j=>.bl (decide (j<i))
def opGe:Op2:=Qp5 (fun _ _=>true) fun i j=>.bl (decide (j<=i))
theorem z_sub (ha:ZE g F X W a da) (hb:ZE g F X W b db):ZE g F X W (.BinOp a .Sub b pos) (Y1 QT9 da db):=QT8 op_sub QM4 ha hb
theorem M4 (ha:ZE g F X W a da) (hb:ZE g F X W b db):ZE g F X W (.BinOp a .Mod b pos) (Y1 H7 da db):=QT8 op_mod (Qf9 fun i j h=>by simpa using h) ha hb
theorem z_div (ha:ZE g F X W a da) (hb:ZE g F X W b db):ZE g F X W (.BinOp a .FloorDiv b pos) (Y1 QM5 da db):=QT8 op_fdiv (Qf9 fun i j h=>by simpa [CDiv] using h) ha hb
theorem z_pow (ha:ZE g F X W a da) (hb:ZE g F X W b db):ZE g F X W (.BinOp a .Pow b pos) (Y1 QM6 da db):=QT8 op_pow (Qf9 fun i j h=>by
 simp only [Bool.and_eq_true,decide_eq_true_eq] at h
 exact ⟨h.1.1,h.1.2,h.2⟩) ha hb
theorem QU1 {i j:Int} (h:(decide (i.natAbs<18446744073709551616) || decide (j.natAbs<18446744073709551616))=true):CMul i j:=by
 simp only [Bool.or_eq_true,decide_eq_true_eq] at h;rcases h with h | h
 . exact .inl ⟨by omega,by omega⟩
 . exact .inr ⟨by omega,by omega⟩
theorem Qg0 {ρ:List Addr} {zh:ZH} {H:Hp} (r:RelH g F ρ zh H) {z:Z} {v:V} (rz:RZ g (UO F ρ zh) H ρ z v) {x:D} {p:PyData} (h:N5 z zh=some x) (e:x.py=some p):Dp g.K H v p/\p.canLay0=true:=by
 unfold N5 at h
 split at h
 . cases h; exact dp_of _ _ _ rz e
 . rename_i i;obtain ⟨a,e1,k⟩:=rz;cases hz:zh[i]? with
   | none=>rw [hz] at h; cases h
   | some o =>
     rw [hz] at h;cases o with
     | dl ys =>
       cases h;obtain ⟨vs,q,z⟩:=r.own i a _ e1 hz;unfold D.py at e;cases hp:D.pys ys with
       | none=>rw [hp] at e; cases e
       | some ps =>
         rw [hp] at e; cases e;obtain ⟨k1,k2⟩:=Qp8 ys vs ps z hp;rw [k];exact ⟨.lst (SqL.of q) k1,by unfold PyData.canLay0; exact k2⟩
     | _=>cases h
 . cases h
theorem P8 {p:PyData} (h:p.canLay0=true) (d:p.depth<=64):SeqAt.shaped p=true:=by
 unfold SeqAt.shaped;rw [h,decide_eq_true d];rfl
def E5 (neg:Bool):Op2:=fun x y h=>match N5 x h,N5 y h with
 | some p,some q=>match peq p q with
   | some k=>.ok (.d (.bl (if neg then !k else k))) h
   | none=>.bad
 | _,_=>.bad
theorem QC9 {neg:Bool}:LowR2 g (fun x y H Q=>∃ d e,Dp g.K H x d/\Dp g.K H y e/\SeqAt.shaped d=true/\SeqAt.shaped e=true/\Q (.bl (if neg then !PyData.eqv d e else PyData.eqv d e)) H) (E5 neg):=by
 intro F W ρ zσ zh σ H zx zy x y Q RH rx ry p;unfold E5 at p;cases hx:N5 zx zh with
 | none=>rw [hx] at p; exact p.elim
 | some d =>
   cases hy:N5 zy zh with
   | none=>rw [hx,hy] at p; exact p.elim
   | some e =>
     rw [hx,hy] at p;cases k:peq d e with
     | none=>simp only [k] at p; exact p.elim
     | some kk =>
       simp only [k] at p;unfold peq at k;cases px:d.py with
       | none=>rw [px] at k; cases k
       | some dp =>
         cases py:e.py with
         | none=>rw [px,py] at k; cases k
         | some ep =>
           rw [px,py] at k;simp only at k
           split at k
           . rename_i hd;cases k;obtain ⟨k1,k2⟩:=Qg0 RH rx hx px;obtain ⟨k3,k4⟩:=Qg0 RH ry hy py;exact ⟨dp,ep,k1,k3,P8 k2 hd.1,P8 k4 hd.2,Post.done RH p (rz_bl.mpr rfl)⟩
           . cases k
end
section
variable {g:G} {F:Fr} {X:Cx} {W:WX} {a b c:Expr} {da db dc:DE} {pos:Pos}
section
variable {ρ ρ1:List Addr} {zσ:ZS} {zh zh1:ZH} {σ:L2.St} {H H1:Hp}
def PostT (g:G) (F:Fr) (W:WX) (ρ:List Addr) (zσ:ZS) (zh:ZH) (σ:L2.St) (H:Hp) (out:Out Bool) (Q:Bool->Hp->Prop):Prop :=
 match out with
 | .ok b zh'=>∀ ρ' H',Ext F ρ zh H ρ' zh' H'->RelH g F ρ' zh' H'->Q b H'
 | .exc x zh'=>∀ ρ' cls dx H',Ext F ρ zh H ρ' zh' H'->RelH g F ρ' zh' H'->RX g (UO F ρ' zh') H' x cls dx->W cls dx σ H'
 | .bad=>False
theorem PostT.shift (e:Ext F ρ zh H ρ1 zh1 H1) {out:Out Bool} {Q:Bool->Hp->Prop} (p:PostT g F W ρ zσ zh σ H out Q):PostT g F W ρ1 zσ zh1 σ H1 out Q:=by
 cases out with
 | ok z h=>exact fun ρ' H' e'=>p ρ' H' (e.trans e')
 | exc x h=>exact fun ρ' c d H' e'=>p ρ' c d H' (e.trans e')
 | bad=>exact p
theorem PostT.bnd {out:Out Bool} {f:Bool->ZH->Out Bool} {Q K:Bool->Hp->Prop} (p:PostT g F W ρ zσ zh σ H (out.bnd f) Q)
   (h:∀ ρ1 z zh1 H1,Ext F ρ zh H ρ1 zh1 H1->RelH g F ρ1 zh1 H1->PostT g F W ρ1 zσ zh1 σ H1 (f z zh1) Q->K z H1):PostT g F W ρ zσ zh σ H out K:=by
 cases out with
 | ok z zh1=>exact fun ρ' H' e1 e2=>h ρ' z zh1 H' e1 e2 (PostT.shift e1 p)
 | exc x h=>exact p
 | bad=>exact p
theorem PostT.bndE {out:Out Bool} {f:Bool->ZH->Out Z} {Q:VK} {K:Bool->Hp->Prop} (p:Post g F W ρ zσ zh σ H (out.bnd f) Q)
   (h:∀ ρ1 z zh1 H1,Ext F ρ zh H ρ1 zh1 H1->RelH g F ρ1 zh1 H1->Post g F W ρ1 zσ zh1 σ H1 (f z zh1) Q->K z H1):PostT g F W ρ zσ zh σ H out K:=by
 cases out with
 | ok z zh1=>exact fun ρ' H' e1 e2=>h ρ' z zh1 H' e1 e2 (Post.shift e1 p)
 | exc x h=>exact p
 | bad=>exact p
theorem Post.bndT {out:Out Z} {f:Z->ZH->Out Bool} {Q:Bool->Hp->Prop} {K:VK} (p:PostT g F W ρ zσ zh σ H (out.bnd f) Q)
   (h:∀ ρ1 z zh1 v H1,Ext F ρ zh H ρ1 zh1 H1->RelH g F ρ1 zh1 H1->RZ g (UO F ρ1 zh1) H1 ρ1 z v->PostT g F W ρ1 zσ zh1 σ H1 (f z zh1) Q->K v H1):Post g F W ρ zσ zh σ H out K:=by
 cases out with
 | ok z zh1=>exact fun ρ' v H' e1 e2 e3=>h ρ' z zh1 v H' e1 e2 e3 (PostT.shift e1 p)
 | exc x h=>exact p
 | bad=>exact p
theorem PostT.done (r:RelH g F ρ zh H) {b:Bool} {Q:Bool->Hp->Prop} (p:PostT g F W ρ zσ zh σ H (.ok b zh) Q):Q b H:=p ρ H Ext.refl r
end
def lowT (g:G) (F:Fr) (W:WX) (d:DT):TT:=fun σ H Q=>∃ ρ zσ zh,RelH g F ρ zh H/\RelS g (UO F ρ zh) H ρ zσ σ/\PostT g F W ρ zσ zh σ H (d zσ zh) Q
def ZT (g:G) (F:Fr) (X:Cx) (W:WX) (e:Expr) (d:DT):Prop:=PT X e (lowT g F W d)
def ZW (g:G) (F:Fr) (X:Cx) (W:WX) (e:Expr) (d:DT):Prop:=PW X e (lowT g F W d)
theorem PT.imp {X:Cx} {e:Expr} {t t':TT} (h:PT X e t) (k:∀ σ H Q,t' σ H Q->t σ H Q):PT X e t':=⟨fun pins s σ H Q I q=>h.run pins s σ H Q I (k σ H Q q)⟩
theorem PW.imp {X:Cx} {e:Expr} {t t':TT} (h:PW X e t) (k:∀ σ H Q,t' σ H Q->t σ H Q):PW X e t':=⟨fun wh pins s σ H Q I q=>h.run wh pins s σ H Q I (k σ H Q q)⟩
def Qh6 (z:Z) (h:ZH):Option Bool :=
 match z with
 | .d .non=>some false
 | .d (.bl b)=>some b
 | .d (.int i)=>some (i != 0)
 | .d (.str s)=>some (!s.isEmpty)
 | .d (.lst xs)=>some (!xs.isEmpty)
 | .d (.tup xs)=>some (!xs.isEmpty)
 | .r i=>match h[i]? with
   | some (.dl xs)=>some (!xs.isEmpty)
   | _=>none
 | _=>none
def Qf0 (d:DE):DT:=fun s h=>(d s h).bnd fun z h1=>match Qh6 z h1 with
 | some b=>.ok b h1
 | none=>.bad
theorem F9 {U:Addr->Prop} {H:Hp} {xs:List D} {vs:List V} (h:RDs g U H xs vs):(!xs.isEmpty) = !vs.isEmpty:=by
 have:=h.length;cases xs <;> cases vs <;> simp_all
theorem QD0 {ρ:List Addr} {zh:ZH} {H:Hp} (r:RelH g F ρ zh H) {z:Z} {v:V} (rz:RZ g (UO F ρ zh) H ρ z v) {k:Bool} (h:Qh6 z zh=some k):TruV g.K v H k:=by
 unfold Qh6 at h
 split at h
 . cases h; rw [rz_non.mp rz]; exact rfl
 . cases h; rw [rz_bl.mp rz]; exact rfl
 . cases h; rw [rz_int.mp rz]; exact rfl
 . rename_i s;cases h;obtain ⟨e,ok⟩:=rz_str.mp rz;rw [e];refine ⟨by show (mkS s).length<=sizeLine; have:=ok.2; simpa [mkS,Str.length] using this,?_⟩;cases s with
   | nil=>rfl
   | cons c s =>
     have:((mkS (c::s)).length:Int)=(s.length:Int)+1:=by simp [mkS,Str.length]
     rw [this]
     have h2:((s.length:Int)+1 != 0)=true:=by
       rw [bne_iff_ne]; omega
     rw [h2]; rfl
 . cases h;obtain ⟨a,vs,e,_,q,k⟩:=rd_lst.mp rz;rw [e];exact .inl ⟨vs,SqL.of q,F9 k⟩
 . cases h;obtain ⟨a,vs,e,_,q,k⟩:=rd_tup.mp rz;rw [e];exact .inr (.inl ⟨vs,.inl q,F9 k⟩)
 . rename_i i;obtain ⟨a,e,k⟩:=rz;cases hz:zh[i]? with
   | none=>rw [hz] at h; cases h
   | some o =>
     rw [hz] at h;cases o with
     | dl ys =>
       cases h;obtain ⟨vs,q,z⟩:=r.own i a _ e hz;rw [k];exact .inl ⟨vs,SqL.of q,F9 z⟩
     | _=>cases h
 . cases h
theorem C6 (hK:X.K=g.K) (ha:ZE g F X W a da) (he:∀ whole,isTrue a X.env whole=(do let v <- whole; standAt a.pos; holding [v] (truthy v)):=by intro _; rfl):ZT g F X W a (Qf0 da):=by
 refine PT.imp (pt_truth ha he) fun σ H Q ⟨ρ,zσ,zh,RH,RS,p⟩=>?_;refine ⟨ρ,zσ,zh,RH,RS,Post.bndT p fun ρ1 z zh1 v H1 e1 R1 rz p1=>?_⟩;cases hz:Qh6 z zh1 with
 | none=>simp only [hz] at p1; exact p1.elim
 | some k =>
   simp only [hz] at p1;exact ⟨k,by rw [hK]; exact QD0 R1 rz hz,PostT.done R1 p1⟩
def V9 (op:Op2) (da db:DE):DT:=fun s h=>(da s h).bnd fun x h1=>(db s h1).bnd fun y h2=>(op x y h2).bnd fun z h3=>match z with
 | .d (.bl b)=>.ok b h3
 | _=>.bad
theorem Qh7 {op:CmpOp} {r:R2} {zop:Op2} (ho:OpR X (compareOp op) r) (hl:LowR2 g r zop) (ha:ZE g F X W a da) (hb:ZE g F X W b db)
   (hm:behindInMarks op b=false:=by first | exact nomark _ (by decide) (by decide) | rfl):ZT g F X W (.Compare a [op] [b] pos) (V9 zop da db):=by
 refine PT.imp (pt_cmpR ho ha hb hm) fun σ H Q ⟨ρ,zσ,zh,RH,RS,p⟩=>?_;refine ⟨ρ,zσ,zh,RH,RS,Post.bndT p fun ρ1 x zh1 v H1 e1 R1 rx p1=>?_⟩;refine ⟨ρ1,zσ,zh1,R1,RS.mono e1,Post.bndT p1 fun ρ2 y zh2 u H2 e2 R2 ry p2=>?_⟩;refine hl R2 (RZ.mono e2.stb e2.pre rx) ry (Post.bndT (zσ:=zσ) (W:=W) (σ:=σ) p2 fun ρ3 z zh3 w H3 e3 R3 rz p3=>?_);cases z with
 | r i=>exact p3.elim
 | e a=>exact p3.elim
 | d z =>
   cases z with
   | bl k=>exact ⟨k,rz_bl.mp rz,PostT.done R3 p3⟩
   | _=>exact p3.elim
theorem Qm7 {k:Nat} (hK:X.K=g.K) (hr:Room k X.A) (ha:ZE g F X W a da) (hb:ZE g F X W b db):ZT g F X W (.Compare a [.Eq] [b] pos) (V9 (E5 false) da db) :=
 Qh7 (op_eqD hr.units) (by rw [hK]; exact QC9) ha hb
theorem Qt4 {k:Nat} (hK:X.K=g.K) (hr:Room k X.A) (ha:ZE g F X W a da) (hb:ZE g F X W b db):ZT g F X W (.Compare a [.NotEq] [b] pos) (V9 (E5 true) da db) :=
 Qh7 (op_neD hr.units) (by rw [hK]; exact QC9) ha hb
theorem QU2 (ha:ZE g F X W a da) (hb:ZE g F X W b db):ZT g F X W (.Compare a [.Lt] [b] pos) (V9 QR0 da db):=Qh7 op_lt T5 ha hb
theorem zt_gt (ha:ZE g F X W a da) (hb:ZE g F X W b db):ZT g F X W (.Compare a [.Gt] [b] pos) (V9 opGt da db):=Qh7 op_gt T5 ha hb
theorem zt_ge (ha:ZE g F X W a da) (hb:ZE g F X W b db):ZT g F X W (.Compare a [.GtE] [b] pos) (V9 opGe da db):=Qh7 op_ge T5 ha hb
def QD1 (neg:Bool):Op2:=fun x y h=>match x,y with
 | .d .non,.d .non=>.ok (.d (.bl (!neg))) h
 | .d (.cls _),.d .non=>.bad
 | _,.d .non=>.ok (.d (.bl neg)) h
 | _,_=>.bad
theorem QD2 {ρ:List Addr} {U:Addr->Prop} {H:Hp} {z:Z} (n:∀ x,z = .d x->x ≠ .non) {v:V} (h:RZ g U H ρ z v):v ≠ .non:=by
 cases z with
 | r i=>obtain ⟨a,_,e⟩:=h; rw [e]; intro q; cases q
 | e a=>rw [show v = .ref a from h]; intro q; cases q
 | d x =>
   have n':=n x rfl;cases x with
   | non=>exact absurd rfl n'
   | bl b=>rw [rz_bl.mp h]; intro q; cases q
   | int b=>rw [rz_int.mp h]; intro q; cases q
   | str b=>rw [(rz_str.mp h).1]; intro q; cases q
   | tup xs=>obtain ⟨a,vs,e,_⟩:=rd_tup.mp h; rw [e]; intro q; cases q
   | tupN xs=>obtain ⟨a,vs,_,e,_⟩:=rd_tupN.mp h; rw [e]; intro q; cases q
   | lst xs=>obtain ⟨a,vs,e,_⟩:=rd_lst.mp h; rw [e]; intro q; cases q
   | scr xs=>obtain ⟨a,vs,e,_⟩:=rd_scr.mp h; rw [e]; intro q; cases q
   | obj c xs=>obtain ⟨a,dx,vs,e,_⟩:=rd_obj.mp h; rw [e]; intro q; cases q
   | dic ks xs=>obtain ⟨a,_,_,e,_⟩:=rd_dic.mp h; rw [e]; intro q; cases q
   | dit ks xs=>obtain ⟨a,_,_,e,_⟩:=rd_dit.mp h; rw [e]; intro q; cases q
   | cls c=>rw [(rd_cls (U:=U) (H:=H)).mp h]; intro q; cases q
theorem low_is {neg:Bool}:LowR2 g (fun x y H Q=>y = .non/\Q (.bl (if neg then !decide (x = .non) else decide (x = .non))) H) (QD1 neg):=by
 intro F W ρ zσ zh σ H zx zy x y Q RH rx ry p;unfold QD1 at p
 split at p
 . have e1:=rz_non.mp rx;have e2:=rz_non.mp ry;subst e1; subst e2;exact ⟨rfl,Post.done RH p (rz_bl.mpr (by cases neg <;> rfl))⟩
 . exact p.elim
 . rename_i h1 h2;have e2:=rz_non.mp ry;subst e2;have:x ≠ .non:=QD2 (fun w e q=>by subst e; subst q; exact h1 rfl) rx;exact ⟨rfl,Post.done RH p (rz_bl.mpr (by cases neg <;> simp [this]))⟩
 . exact p.elim
theorem zt_is (ha:ZE g F X W a da) (hb:ZE g F X W b db):ZT g F X W (.Compare a [.Is] [b] pos) (V9 (QD1 false) da db):=Qh7 op_isN low_is ha hb
def P9 (op op':Op2) (da db dc:DE):DE:=fun s h=>(da s h).bnd fun x h1=>(db s h1).bnd fun y h2=>(op x y h2).bnd fun z h3=>match z with
 | .d (.bl true)=>(dc s h3).bnd fun w h4=>op' y w h4
 | .d (.bl false)=>.ok (.d (.bl false)) h3
 | _=>.bad
theorem Qp9 {r r':R2} {op op':Op2} (hl:LowR2 g r op) (hl':LowR2 g r' op') {σ:L2.St} {H:Hp} {Q:VK} (h:low g F W (P9 op op' da db dc) σ H Q) :
   tChain r r' (low g F W da) (low g F W db) (low g F W dc) σ H Q:=by
 obtain ⟨ρ,zσ,zh,RH,RS,p⟩:=h;refine ⟨ρ,zσ,zh,RH,RS,Post.bnd p fun ρ1 x zh1 v H1 e1 R1 rx p1=>?_⟩;refine ⟨ρ1,zσ,zh1,R1,RS.mono e1,Post.bnd p1 fun ρ2 y zh2 u H2 e2 R2 ry p2=>?_⟩;refine hl R2 (RZ.mono e2.stb e2.pre rx) ry (Post.bnd (zσ:=zσ) (W:=W) (σ:=σ) p2 fun ρ3 z zh3 w H3 e3 R3 rz p3=>?_);cases z with
 | r i=>exact p3.elim
 | e a=>exact p3.elim
 | d z =>
   cases z with
   | bl k =>
     refine ⟨k,rz_bl.mp rz,?_⟩;cases k with
     | false=>exact iteF (Post.done R3 p3 (rz_bl.mpr rfl))
     | true =>
       refine iteT ⟨ρ3,zσ,zh3,R3,(RS.mono e1).mono (e2.trans e3),Post.bnd p3 fun ρ4 w' zh4 v4 H4 e4 R4 rw4 p4=>?_⟩;exact hl' R4 (RZ.mono (e3.trans e4).stb (e3.trans e4).pre ry) rw4 p4
   | _=>exact p3.elim
theorem QU3 {op op':CmpOp} {r r':R2} {zop zop':Op2} (ho:OpR X (compareOp op) r) (ho':OpR X (compareOp op') r') (hl:LowR2 g r zop) (hl':LowR2 g r' zop') (ha:ZE g F X W a da) (hb:ZE g F X W b db) (hc:ZE g F X W c dc)
   (hm:lastMarks [op,op'] [b,c]=false:=by with_unfolding_all rfl):ZE g F X W (.Compare a [op,op'] [b,c] pos) (P9 zop zop' da db dc) :=
 PE.imp (pe_chain ho ho' ha hb hc hm) fun _ _ _ h=>Qp9 hl hl' h
def E6 (d:DE):DT:=fun s h=>(d s h).bnd fun z h1=>match z with
 | .d (.bl b)=>.ok b h1
 | _=>.bad
theorem Qw4 {op op':CmpOp} {r r':R2} {zop zop':Op2} (ho:OpR X (compareOp op) r) (ho':OpR X (compareOp op') r') (hl:LowR2 g r zop) (hl':LowR2 g r' zop') (ha:ZE g F X W a da) (hb:ZE g F X W b db) (hc:ZE g F X W c dc)
   (hm:lastMarks [op,op'] [b,c]=false:=by with_unfolding_all rfl):ZT g F X W (.Compare a [op,op'] [b,c] pos) (E6 (P9 zop zop' da db dc)):=by
 refine PT.imp (pt_chain ho ho' ha hb hc hm) fun σ H Q ⟨ρ,zσ,zh,RH,RS,p⟩=>?_;refine Qp9 (W:=W) (F:=F) hl hl' ⟨ρ,zσ,zh,RH,RS,Post.bndT p fun ρ1 z zh1 v H1 e1 R1 rz p1=>?_⟩;cases z with
 | r i=>exact p1.elim
 | e a=>exact p1.elim
 | d z =>
   cases z with
   | bl k=>exact ⟨k,rz_bl.mp rz,PostT.done R1 p1⟩
   | _=>exact p1.elim
theorem z_leLe (ha:ZE g F X W a da) (hb:ZE g F X W b db) (hc:ZE g F X W c dc) (hm:lastMarks [.LtE,.LtE] [b,c]=false:=by with_unfolding_all rfl):ZE g F X W (.Compare a [.LtE,.LtE] [b,c] pos) (P9 Qw3 Qw3 da db dc):=QU3 op_le op_le T5 T5 ha hb hc hm
theorem QD3 (ha:ZE g F X W a da) (hb:ZE g F X W b db) (hc:ZE g F X W c dc) (hm:lastMarks [.LtE,.Lt] [b,c]=false:=by with_unfolding_all rfl):ZT g F X W (.Compare a [.LtE,.Lt] [b,c] pos) (E6 (P9 Qw3 QR0 da db dc)):=Qw4 op_le op_lt T5 T5 ha hb hc hm
theorem QD4 (ha:ZE g F X W a da) (hb:ZE g F X W b db) (hc:ZE g F X W c dc) (hm:lastMarks [.LtE,.LtE] [b,c]=false:=by with_unfolding_all rfl):ZT g F X W (.Compare a [.LtE,.LtE] [b,c] pos) (E6 (P9 Qw3 Qw3 da db dc)):=Qw4 op_le op_le T5 T5 ha hb hc hm
variable {ta tb:DT} {rest:List Expr}
def dAnd (ta tb:DT):DT:=fun s h=>(ta s h).bnd fun b h1=>if b=true then tb s h1 else .ok false h1
def dOr (ta tb:DT):DT:=fun s h=>(ta s h).bnd fun b h1=>if b=true then .ok true h1 else tb s h1
def Qt0 (ta:DT):DT:=fun s h=>(ta s h).bnd fun b h1=>.ok (!b) h1
theorem QU4 (ha:ZT g F X W a ta):ZW g F X W (.BoolOp .And [a] pos) ta:=pw_and1 ha
theorem Qq0 (ha:ZT g F X W a ta):ZW g F X W (.BoolOp .Or [a] pos) ta:=pw_or1 ha
theorem zw_and (ha:ZT g F X W a ta) (hb:ZW g F X W (.BoolOp .And (b::rest) pos) tb):ZW g F X W (.BoolOp .And (a::b::rest) pos) (dAnd ta tb):=by
 refine PW.imp (pw_and ha hb) fun σ H Q ⟨ρ,zσ,zh,RH,RS,p⟩=>?_;refine ⟨ρ,zσ,zh,RH,RS,PostT.bnd p fun ρ1 k zh1 H1 e1 R1 p1=>?_⟩;cases k with
 | true=>exact iteT ⟨ρ1,zσ,zh1,R1,RS.mono e1,p1⟩
 | false=>exact iteF (PostT.done R1 p1)
theorem Qz1 (ha:ZT g F X W a ta) (hb:ZW g F X W (.BoolOp .Or (b::rest) pos) tb):ZW g F X W (.BoolOp .Or (a::b::rest) pos) (dOr ta tb):=by
 refine PW.imp (pw_or ha hb) fun σ H Q ⟨ρ,zσ,zh,RH,RS,p⟩=>?_;refine ⟨ρ,zσ,zh,RH,RS,PostT.bnd p fun ρ1 k zh1 H1 e1 R1 p1=>?_⟩;cases k with
 | true=>exact iteT (PostT.done R1 p1)
 | false=>exact iteF ⟨ρ1,zσ,zh1,R1,RS.mono e1,p1⟩
theorem Xb6 (h:ZW g F X W a ta):ZT g F X W a ta:=PW.pt h
theorem D7 (ha:ZT g F X W a ta):ZT g F X W (.UnaryOp .Not a pos) (Qt0 ta):=by
 refine PT.imp (pt_not ha) fun σ H Q ⟨ρ,zσ,zh,RH,RS,p⟩=>?_;exact ⟨ρ,zσ,zh,RH,RS,PostT.bnd p fun ρ1 k zh1 H1 e1 R1 p1=>PostT.done R1 p1⟩
def QD5 (da db:DE):DE:=fun s h=>(da s h).bnd fun z h1=>match z with
 | .d (.bl true)=>db s h1
 | .d (.bl false)=>.ok (.d (.bl false)) h1
 | _=>.bad
def QM7 (da:DE):DE:=fun s h=>(da s h).bnd fun z h1=>match z with
 | .d (.bl b)=>.ok (.d (.bl (!b))) h1
 | _=>.bad
theorem z_one {op:BoolOp} (ha:ZE g F X W a da):ZE g F X W (.BoolOp op [a] pos) da:=pe_one ha
theorem z_and (ha:ZE g F X W a da) (hb:ZE g F X W (.BoolOp .And (b::rest) pos) db):ZE g F X W (.BoolOp .And (a::b::rest) pos) (QD5 da db):=by
 refine PE.imp (pe_and ha hb) fun σ H Q ⟨ρ,zσ,zh,RH,RS,p⟩=>?_;refine ⟨ρ,zσ,zh,RH,RS,Post.bnd p fun ρ1 z zh1 v H1 e1 R1 rz p1=>?_⟩;cases z with
 | r i=>exact p1.elim
 | e a=>exact p1.elim
 | d z =>
   cases z with
   | bl k =>
     refine ⟨k,rz_bl.mp rz,?_⟩;cases k with
     | true=>exact iteT ⟨ρ1,zσ,zh1,R1,RS.mono e1,p1⟩
     | false=>exact iteF (Post.done R1 p1 (rz_bl.mpr rfl))
   | _=>exact p1.elim
theorem z_not (ha:ZE g F X W a da):ZE g F X W (.UnaryOp .Not a pos) (QM7 da):=by
 refine PE.imp (pe_not ha) fun σ H Q ⟨ρ,zσ,zh,RH,RS,p⟩=>?_;refine ⟨ρ,zσ,zh,RH,RS,Post.bnd p fun ρ1 z zh1 v H1 e1 R1 rz p1=>?_⟩;cases z with
 | r i=>exact p1.elim
 | e a=>exact p1.elim
 | d z =>
   cases z with
   | bl k=>exact ⟨k,rz_bl.mp rz,Post.done R1 p1 (rz_bl.mpr rfl)⟩
   | _=>exact p1.elim
end
section
variable {g:G} {F:Fr} {X:Cx} {W:WX} {a b c e:Expr} {es:List Expr} {da db dc:DE} {pos:Pos}
def PostA (g:G) (F:Fr) (W:WX) (ρ:List Addr) (zσ:ZS) (zh:ZH) (σ:L2.St) (H:Hp) (out:Out (List Z)) (Q:List V->Hp->Prop):Prop :=
 match out with
 | .ok zs zh'=>∀ ρ' vs H',Ext F ρ zh H ρ' zh' H'->RelH g F ρ' zh' H'->RZs g (UO F ρ' zh') H' ρ' zs vs->Q vs H'
 | .exc x zh'=>∀ ρ' cls dx H',Ext F ρ zh H ρ' zh' H'->RelH g F ρ' zh' H'->RX g (UO F ρ' zh') H' x cls dx->W cls dx σ H'
 | .bad=>False
section
variable {ρ ρ1:List Addr} {zσ:ZS} {zh zh1:ZH} {σ:L2.St} {H H1:Hp}
theorem PostA.shift (e:Ext F ρ zh H ρ1 zh1 H1) {out:Out (List Z)} {Q:List V->Hp->Prop} (p:PostA g F W ρ zσ zh σ H out Q):PostA g F W ρ1 zσ zh1 σ H1 out Q:=by
 cases out with
 | ok z h=>exact fun ρ' v H' e'=>p ρ' v H' (e.trans e')
 | exc x h=>exact fun ρ' c d H' e'=>p ρ' c d H' (e.trans e')
 | bad=>exact p
theorem Post.bndA {out:Out Z} {f:Z->ZH->Out (List Z)} {Q:List V->Hp->Prop} {K:VK} (p:PostA g F W ρ zσ zh σ H (out.bnd f) Q)
   (h:∀ ρ1 z zh1 v H1,Ext F ρ zh H ρ1 zh1 H1->RelH g F ρ1 zh1 H1->RZ g (UO F ρ1 zh1) H1 ρ1 z v->PostA g F W ρ1 zσ zh1 σ H1 (f z zh1) Q->K v H1):Post g F W ρ zσ zh σ H out K:=by
 cases out with
 | ok z zh1=>exact fun ρ' v H' e1 e2 e3=>h ρ' z zh1 v H' e1 e2 e3 (PostA.shift e1 p)
 | exc x h=>exact p
 | bad=>exact p
theorem PostA.bnd {out:Out (List Z)} {f:List Z->ZH->Out (List Z)} {Q K:List V->Hp->Prop} (p:PostA g F W ρ zσ zh σ H (out.bnd f) Q)
   (h:∀ ρ1 z zh1 v H1,Ext F ρ zh H ρ1 zh1 H1->RelH g F ρ1 zh1 H1->RZs g (UO F ρ1 zh1) H1 ρ1 z v->PostA g F W ρ1 zσ zh1 σ H1 (f z zh1) Q->K v H1):PostA g F W ρ zσ zh σ H out K:=by
 cases out with
 | ok z zh1=>exact fun ρ' v H' e1 e2 e3=>h ρ' z zh1 v H' e1 e2 e3 (PostA.shift e1 p)
 | exc x h=>exact p
 | bad=>exact p
theorem PostA.bndE {out:Out (List Z)} {f:List Z->ZH->Out Z} {Q:VK} {K:List V->Hp->Prop} (p:Post g F W ρ zσ zh σ H (out.bnd f) Q)
   (h:∀ ρ1 z zh1 v H1,Ext F ρ zh H ρ1 zh1 H1->RelH g F ρ1 zh1 H1->RZs g (UO F ρ1 zh1) H1 ρ1 z v->Post g F W ρ1 zσ zh1 σ H1 (f z zh1) Q->K v H1):PostA g F W ρ zσ zh σ H out K:=by
 cases out with
 | ok z zh1=>exact fun ρ' v H' e1 e2 e3=>h ρ' z zh1 v H' e1 e2 e3 (Post.shift e1 p)
 | exc x h=>exact p
 | bad=>exact p
theorem PostA.done (r:RelH g F ρ zh H) {zs:List Z} {vs:List V} {Q:List V->Hp->Prop} (p:PostA g F W ρ zσ zh σ H (.ok zs zh) Q) (rz:RZs g (UO F ρ zh) H ρ zs vs):Q vs H :=
 p ρ vs H Ext.refl r rz
end
def lowA (g:G) (F:Fr) (W:WX) (d:DA):TA:=fun σ H Q=>∃ ρ zσ zh,RelH g F ρ zh H/\RelS g (UO F ρ zh) H ρ zσ σ/\PostA g F W ρ zσ zh σ H (d zσ zh) Q
def ZA (g:G) (F:Fr) (X:Cx) (W:WX) (es:List Expr) (d:DA):Prop:=PA X es (lowA g F W d)
theorem PA.imp {X:Cx} {es:List Expr} {t t':TA} (h:PA X es t) (k:∀ σ H Q,t' σ H Q->t σ H Q):PA X es t':=⟨fun pos pins s σ H Q I q=>h.run pos pins s σ H Q I (k σ H Q q)⟩
def dNil:DA:=fun _ h=>.ok [] h
def Q4 (d:DE) (r:DA):DA:=fun s h=>(d s h).bnd fun z h1=>(r s h1).bnd fun zs h2=>.ok (z::zs) h2
theorem Q6:ZA g F X W [] dNil:=PA.imp pa_nil fun σ H Q ⟨ρ,zσ,zh,RH,RS,p⟩=>PostA.done RH p rfl
theorem Q0 {dr:DA} (ha:ZE g F X W e da) (hr:ZA g F X W es dr) (hs:starEach (e::es) X.env=(false,eval e X.env)::starEach es X.env:=by rfl):ZA g F X W (e::es) (Q4 da dr):=by
 refine PA.imp (pa_cons ha hr hs) fun σ H Q ⟨ρ,zσ,zh,RH,RS,p⟩=>?_;refine ⟨ρ,zσ,zh,RH,RS,Post.bndA p fun ρ1 z zh1 v H1 e1 R1 rz p1=>?_⟩;refine ⟨ρ1,zσ,zh1,R1,RS.mono e1,PostA.bnd p1 fun ρ2 zs zh2 vs H2 e2 R2 rzs p2=>?_⟩;exact PostA.done R2 p2 ⟨v,vs,rfl,RZ.mono e2.stb e2.pre rz,rzs⟩
def G0:List Z->Option (List D)
 | []=>some []
 | .d x::zs=>(G0 zs).bind fun xs=>some (x::xs)
 | .r _::_=>none
 | .e _::_=>none
theorem M5 {U:Addr->Prop} {H:Hp} {ρ:List Addr}:∀ {zs:List Z} {xs:List D} {vs:List V},G0 zs=some xs->RZs g U H ρ zs vs->RDs g U H xs vs
 | [],xs,vs,h,r=>by cases h; exact rds_nil.mpr r
 | .d x::zs,xs,vs,h,⟨v,vs',e,r,q⟩=>by
   unfold G0 at h;cases k:G0 zs with
   | none=>rw [k] at h; cases h
   | some ys =>
     rw [k] at h; cases h;exact rds_cons.mpr ⟨v,vs',e,r,M5 k q⟩
 | .r _::_,xs,vs,h,_=>by cases h
 | .e _::_,xs,vs,h,_=>by cases h
def QL8 (d:DA):DE:=fun s h=>(d s h).bnd fun zs h1=>match G0 zs with
 | some xs=>if xs.length<=1000000 then .ok (.d (.tup xs)) h1 else .bad
 | none=>.bad
def Qw5 (d:DA):DE:=fun s h=>(d s h).bnd fun zs h1=>match G0 zs with
 | some xs=>if xs.length<=1000000 then .ok (.d (.lst xs)) h1 else .bad
 | none=>.bad
def Qz2 (d:DA):DE:=fun s h=>(d s h).bnd fun zs h1=>match G0 zs with
 | some xs=>if xs.length<=1000000 then .ok (.r h1.length) (h1++[.dl xs]) else .bad
 | none=>.bad
def Qt5 (d:DA):DE:=fun s h=>(d s h).bnd fun zs h1=>if zs.length<=1000000 then .ok (.r h1.length) (h1++[.zl zs]) else .bad
theorem Qm8 {n:Nat} (h:n<=1000000):n<=sizeLine:=by rw [sizeLine_eq]; omega
theorem Z2 {ρ:List Addr} {zσ:ZS} {zh:ZH} {σ:L2.St} {H:Hp} (R:RelH g F ρ zh H) {p:Addr} {o:HO} {x:D} {Q:VK} (n:H p=none) (pp:Post g F W ρ zσ zh σ H (.ok (.d x) zh) Q)
   (k:∀ (U:Addr->Prop),¬ U p->Stb (UO F ρ zh) H U (upd H p o)->RD g U (upd H p o) x (.ref p)):Q (.ref p) (upd H p o):=by
 obtain ⟨R',e,nu⟩:=R.newF (o:=o) n;exact pp ρ (.ref p) _ e R' (k _ nu e.stb)
theorem E7 {ρ:List Addr} {zσ:ZS} {zh:ZH} {σ:L2.St} {H:Hp} (R:RelH g F ρ zh H) {p:Addr} {o:HO} {zo:ZO} {Q:VK} (n:H p=none) (pp:Post g F W ρ zσ zh σ H (.ok (.r zh.length) (zh++[zo])) Q)
   (k:∀ (U:Addr->Prop),Stb (UO F ρ zh) H U (upd H p o)->RO g U (upd H p o) (ρ++[p]) p zo):Q (.ref p) (upd H p o):=by
 have s:Stb (UO F ρ zh) H (UO F (ρ++[p]) (zh++[zo])) (upd H p o):=fun a u e nua =>
   ⟨by rw [upd_ne (ne_of_none e n)]; exact e,fun z=>(QC7 R.len z).elim nua (ne_of_none e n)⟩
 obtain ⟨R',e⟩:=R.newO (o:=o) n (k _ s);exact pp (ρ++[p]) (.ref p) _ e R' ⟨p,by rw [<- R.len]; simp,rfl⟩
theorem Qt6 {x1} {d:DA} (h:ZA g F X W es d):ZE g F X W (.Tuple es x1 pos) (QL8 d):=by
 refine PE.imp (pe_tup h) fun σ H Q ⟨ρ,zσ,zh,RH,RS,p⟩=>?_;refine ⟨ρ,zσ,zh,RH,RS,PostA.bndE p fun ρ1 zs zh1 vs H1 e1 R1 rz p1=>?_⟩;cases k:G0 zs with
 | none=>simp only [k] at p1; exact p1.elim
 | some xs =>
   simp only [k] at p1;have r:=M5 k rz
   by_cases hl:xs.length<=1000000
   . rw [if_pos hl] at p1;exact ⟨by rw [r.length]; exact Qm8 hl,fun q hq=>Z2 R1 hq p1 fun U nu s=>rd_tup.mpr ⟨q,vs,rfl,nu,.inl upd_same,RDs.mono s xs vs r⟩⟩
   . rw [if_neg hl] at p1; exact p1.elim
theorem Qm9 {d:DA} (h:ZA g F X W es d):ZE g F X W (.List es pos) (Qw5 d):=by
 refine PE.imp (pe_lst h) fun σ H Q ⟨ρ,zσ,zh,RH,RS,p⟩=>?_;refine ⟨ρ,zσ,zh,RH,RS,PostA.bndE p fun ρ1 zs zh1 vs H1 e1 R1 rz p1=>?_⟩;cases k:G0 zs with
 | none=>simp only [k] at p1; exact p1.elim
 | some xs =>
   simp only [k] at p1;have r:=M5 k rz
   by_cases hl:xs.length<=1000000
   . rw [if_pos hl] at p1;exact ⟨by rw [r.length]; exact Qm8 hl,fun q hq=>Z2 R1 hq p1 fun U nu s=>rd_lst.mpr ⟨q,vs,rfl,nu,upd_same,RDs.mono s xs vs r⟩⟩
   . rw [if_neg hl] at p1; exact p1.elim
theorem QD6 {d:DA} (h:ZA g F X W es d):ZE g F X W (.List es pos) (Qz2 d):=by
 refine PE.imp (pe_lst h) fun σ H Q ⟨ρ,zσ,zh,RH,RS,p⟩=>?_;refine ⟨ρ,zσ,zh,RH,RS,PostA.bndE p fun ρ1 zs zh1 vs H1 e1 R1 rz p1=>?_⟩;cases k:G0 zs with
 | none=>simp only [k] at p1; exact p1.elim
 | some xs =>
   simp only [k] at p1;have r:=M5 k rz
   by_cases hl:xs.length<=1000000
   . rw [if_pos hl] at p1;exact ⟨by rw [r.length]; exact Qm8 hl,fun q hq=>E7 R1 hq p1 fun U s=>⟨vs,upd_same,RDs.mono s xs vs r⟩⟩
   . rw [if_neg hl] at p1; exact p1.elim
theorem QR1 {d:DA} (h:ZA g F X W es d):ZE g F X W (.List es pos) (Qt5 d):=by
 refine PE.imp (pe_lst h) fun σ H Q ⟨ρ,zσ,zh,RH,RS,p⟩=>?_;refine ⟨ρ,zσ,zh,RH,RS,PostA.bndE p fun ρ1 zs zh1 vs H1 e1 R1 rz p1=>?_⟩
 by_cases hl:zs.length<=1000000
 . rw [if_pos hl] at p1;exact ⟨by rw [rz.length]; exact Qm8 hl,fun q hq=>E7 R1 hq p1 fun U s=>⟨vs,upd_same,RZs.mono s (List.prefix_append _ _) rz⟩⟩
 . rw [if_neg hl] at p1; exact p1.elim
abbrev OpN:=List Z->ZH->Out Z
def Y2 (op:OpN) (d:DA):DE:=fun s h=>(d s h).bnd fun zs h1=>op zs h1
def QL9 (g:G) (r:List V->Hp->VK->Prop) (op:OpN):Prop:=∀ {F:Fr} {W:WX} {ρ:List Addr} {zσ:ZS} {zh:ZH} {σ:L2.St} {H:Hp} {zs:List Z} {vs:List V} {Q:VK},
 RelH g F ρ zh H->RZs g (UO F ρ zh) H ρ zs vs->Post g F W ρ zσ zh σ H (op zs zh) Q->r vs H Q
variable {x:Str} {p:Pos} {id T:String} {r:List V->Hp->VK->Prop} {zop:OpN}
theorem Qt7 (hc:CallR X (.builtin id) r) (hl:QL9 g r zop) (hg:Gl X x) (hm:X.mg x=none) (hv:bootBuiltins x=some (.builtin id)) {d:DA} (ha:ZA g F X W (e::es) d) (hn:x ≠ "__name__" := by decide) (hdb:(x == ("__debug__" : Str))=false:=by decide)
   (he:starEach (e::es) X.env=(false,eval e X.env)::starEach es X.env:=by rfl) (hpl:(backTo pos (starEach es X.env)).any (·.1)=false:=by rfl):ZE g F X W (.Call (.Name x p) (e::es) [] pos) (Y2 zop d):=by
 refine PE.imp (pe_callB hc hg hm hv ha hn hdb he hpl) fun σ H Q ⟨ρ,zσ,zh,RH,RS,p⟩=>?_;exact ⟨ρ,zσ,zh,RH,RS,PostA.bndE p fun ρ1 zs zh1 vs H1 e1 R1 rz p1=>hl R1 rz p1⟩
theorem Qg1 (hc:CallR X (.type T) r) (hl:QL9 g r zop) (hg:Gl X x) (hm:X.mg x=none) (hv:bootBuiltins x=some (.type T)) {d:DA} (ha:ZA g F X W (e::es) d) (hn:x ≠ "__name__" := by decide) (hdb:(x == ("__debug__" : Str))=false:=by decide)
   (he:starEach (e::es) X.env=(false,eval e X.env)::starEach es X.env:=by rfl) (hpl:(backTo pos (starEach es X.env)).any (·.1)=false:=by rfl):ZE g F X W (.Call (.Name x p) (e::es) [] pos) (Y2 zop d):=by
 refine PE.imp (pe_callTy hc hg hm hv ha hn hdb he hpl) fun σ H Q ⟨ρ,zσ,zh,RH,RS,p⟩=>?_;exact ⟨ρ,zσ,zh,RH,RS,PostA.bndE p fun ρ1 zs zh1 vs H1 e1 R1 rz p1=>hl R1 rz p1⟩
theorem Z9 {U:Addr->Prop} {H:Hp} {ρ:List Addr} {z:Z} {vs:List V} (h:RZs g U H ρ [z] vs):∃ v,vs=[v]/\RZ g U H ρ z v:=by
 obtain ⟨v,vs',e,r,q⟩:=h;exact ⟨v,by rw [e,show vs'=[] from q],r⟩
def opInt:OpN:=fun zs h=>match zs with
 | [.d (.int i)]=>.ok (.d (.int i)) h
 | [.d (.bl b)]=>.ok (.d (.int (if b then 1 else 0))) h
 | _=>.bad
theorem QU5:QL9 g (fun xs H Q=>(∃ i,xs=[.int i]/\Q (.int i) H) \/ ∃ k,xs=[.bl k]/\Q (.int (if k then 1 else 0)) H) opInt:=by
 intro F W ρ zσ zh σ H zs vs Q RH rz p;unfold opInt at p
 split at p
 . obtain ⟨v,rfl,q⟩:=Z9 rz;rw [rz_int.mp q];exact .inl ⟨_,rfl,Post.done RH p (rz_int.mpr rfl)⟩
 . obtain ⟨v,rfl,q⟩:=Z9 rz;rw [rz_bl.mp q];exact .inr ⟨_,rfl,Post.done RH p (rz_int.mpr rfl)⟩
 . exact p.elim
def opAbs:OpN:=fun zs h=>match zs with
 | [.d (.int i)]=>.ok (.d (.int (if i<0 then -i else i))) h
 | _=>.bad
theorem QU6:QL9 g (fun xs H Q=>∃ i,xs=[.int i]/\Q (.int (if i<0 then -i else i)) H) opAbs:=by
 intro F W ρ zσ zh σ H zs vs Q RH rz p;unfold opAbs at p
 split at p
 . obtain ⟨v,rfl,q⟩:=Z9 rz;rw [rz_int.mp q];exact ⟨_,rfl,Post.done RH p (rz_int.mpr rfl)⟩
 . exact p.elim
def opLen:OpN:=fun zs h=>match zs with
 | [.d (.str s)]=>.ok (.d (.int s.length)) h
 | [z]=>match P7 z h with
   | some xs=>.ok (.d (.int xs.length)) h
   | none=>.bad
 | _=>.bad
theorem QU7:QL9 g (fun xs H Q=>∃ x n,xs=[x]/\LenV g.K x H n/\Q (.int n) H) opLen:=by
 intro F W ρ zσ zh σ H zs vs Q RH rz p;unfold opLen at p
 split at p
 . obtain ⟨v,rfl,q⟩:=Z9 rz;obtain ⟨e,ok⟩:=rz_str.mp q;rw [e];refine ⟨_,_,rfl,⟨?_,rfl⟩,Post.done RH p (rz_int.mpr (by simp [mkS,Str.length]))⟩;have:=ok.2;simpa [mkS,Str.length] using this
 . rename_i z _;obtain ⟨v,rfl,q⟩:=Z9 rz;cases k:P7 z zh with
   | none=>simp only [k] at p; exact p.elim
   | some xs =>
     simp only [k] at p;obtain ⟨a,us,rfl,hs,hr⟩:=Qf8 RH q k;refine ⟨_,us.length,rfl,?_,Post.done RH p (rz_int.mpr (by rw [hr.length]))⟩;rcases hs with hs | hs
     . exact .inl ⟨us,hs,rfl⟩
     . exact .inr ⟨us,hs,rfl⟩
 . exact p.elim
def I8 (own:Bool):OpN:=fun zs h=>match zs with
 | [z]=>match P7 z h with
   | some xs=>if own then .ok (.r h.length) (h++[.dl xs]) else .ok (.d (.lst xs)) h
   | none=>.bad
 | _=>.bad
theorem QM8 {own:Bool}:QL9 g (fun xs H Q=>∃ p ys,xs=[.ref p]/\(SqL g.K H p ys\/SqT g.K H p ys) /\ ∀ l,H l=none->Q (.ref l) (upd H l (.lst ys))) (I8 own):=by
 intro F W ρ zσ zh σ H zs vs Q RH rz p;unfold I8 at p
 split at p
 . rename_i z;obtain ⟨v,rfl,q⟩:=Z9 rz;cases k:P7 z zh with
   | none=>simp only [k] at p; exact p.elim
   | some xs =>
     simp only [k] at p;obtain ⟨a,us,rfl,hs,hr⟩:=Qf8 RH q k;refine ⟨a,us,rfl,hs,fun l hl=>?_⟩;cases own with
     | true =>
       rw [if_pos rfl] at p;exact E7 RH hl p fun U s=>⟨us,upd_same,RDs.mono s xs us hr⟩
     | false =>
       rw [if_neg Bool.false_ne_true] at p;exact Z2 RH hl p fun U nu s=>rd_lst.mpr ⟨l,us,rfl,nu,upd_same,RDs.mono s xs us hr⟩
 . exact p.elim
def opTuple:OpN:=fun zs h=>match zs with
 | [.d (.tup xs)]=>.ok (.d (.tup xs)) h
 | [.d (.scr _)]=>.bad
 | [z]=>match P7 z h with
   | some xs=>.ok (.d (.tup xs)) h
   | none=>.bad
 | _=>.bad
theorem QD7:QL9 g (fun xs H Q=>∃ p ys,xs=[.ref p]/\((SqL g.K H p ys /\ ∀ l,H l=none->Q (.ref l) (upd H l (.tup ys)))\/(SqT g.K H p ys/\Q (.ref p) H))) opTuple:=by
 intro F W ρ zσ zh σ H zs vs Q RH rz p;unfold opTuple at p
 split at p
 . obtain ⟨v,rfl,q⟩:=Z9 rz;obtain ⟨a,us,rfl,_,hs,hr⟩:=rd_tup.mp q;exact ⟨a,us,rfl,.inr ⟨.inl hs,Post.done RH p q⟩⟩
 . exact p.elim
 . rename_i z n1 n2;obtain ⟨v,rfl,q⟩:=Z9 rz;cases k:P7 z zh with
   | none=>simp only [k] at p; exact p.elim
   | some xs =>
     simp only [k] at p
     have k':B5 z zh=some xs:=by
       unfold P7 at k;unfold B5
       split at k
       . exact k
       . exact absurd rfl (n1 _)
       . exact absurd rfl (n2 _)
       . exact k
       . cases k
     obtain ⟨a,us,rfl,hs,hr⟩:=O9 RH q k';exact ⟨a,us,rfl,.inl ⟨SqL.of hs,fun l hl=>Z2 RH hl p fun U nu s=>rd_tup.mpr ⟨l,us,rfl,nu,.inl upd_same,RDs.mono s xs us hr⟩⟩⟩
 . exact p.elim
end
section
variable {g:G} {F:Fr} {X:Cx} {W:WX} {a b c e:Expr} {es:List Expr} {da db dc:DE} {pos:Pos}
def atD (xs:List D) (i:Int):Option D:=(ixN xs.length i).bind fun j=>xs[j]?
theorem QR2 {U:Addr->Prop} {H:Hp} {xs:List D} {vs:List V} {i:Int} {x:D} (r:RDs g U H xs vs) (h:atD xs i=some x):∃ v,atI vs i=some v/\RD g U H x v:=by
 unfold atD at h;unfold atI;rw [r.length];cases k:ixN xs.length i with
 | none=>rw [k] at h; cases h
 | some j =>
   rw [k] at h;obtain ⟨v,h1,h2⟩:=RDs.get r (i:=j) (d:=x) h;exact ⟨v,h1,h2⟩
def atZ (xs:List Z) (i:Int):Option Z:=(ixN xs.length i).bind fun j=>xs[j]?
theorem atZ_ok {U:Addr->Prop} {H:Hp} {ρ:List Addr} {xs:List Z} {vs:List V} {i:Int} {x:Z} (r:RZs g U H ρ xs vs) (h:atZ xs i=some x):∃ v,atI vs i=some v/\RZ g U H ρ x v:=by
 unfold atZ at h;unfold atI;rw [r.length];cases k:ixN xs.length i with
 | none=>rw [k] at h; cases h
 | some j =>
   rw [k] at h;obtain ⟨v,h1,h2⟩:=RZs.get r (i:=j) (d:=x) h;exact ⟨v,h1,h2⟩
def opIx:Op2:=fun x y h=>match y with
 | .d (.int i)=>match x with
   | .d (.str s)=>match (ixN s.length i).bind fun j=>s[j]? with
     | some c=>.ok (.d (.str [c])) h
     | none=>.bad
   | .r k=>match h[k]? with
     | some (.dl xs)=>match atD xs i with
       | some x=>.ok (.d x) h
       | none=>.bad
     | some (.zl xs)=>match atZ xs i with
       | some x=>.ok x h
       | none=>.bad
     | _=>.bad
   | z => match P7 z h with
     | some xs=>match atD xs i with
       | some x=>.ok (.d x) h
       | none=>.bad
     | none=>.bad
 | _=>.bad
theorem low_ix:LowR2 g (rIx g.K) opIx:=by
 intro F W ρ zσ zh σ H zx zy x y Q RH rx ry p;unfold opIx at p
 split at p
 . rename_i i;have ey:=rz_int.mp ry;subst ey
   split at p
   . rename_i s;obtain ⟨ex,ok⟩:=rz_str.mp rx;subst ex;cases k:(ixN s.length i).bind fun j=>s[j]? with
     | none=>simp only [k] at p; exact p.elim
     | some c =>
       simp only [k] at p;refine .inr (.inr ⟨_,_,c,rfl,rfl,by simpa [mkS,Str.length] using ok.2,by simpa [atI,mkS] using k,Post.done RH p (rz_str.mpr ⟨rfl,?_,?_⟩)⟩)
       . intro c' hc';have e:c'=c:=by simpa using hc'
         subst e;cases k2:ixN s.length i with
         | none=>rw [k2] at k; cases k
         | some j =>
           rw [k2] at k;exact ok.1 _ (Xq8 k)
       . show 1<=sizeLine
         decide
   . rename_i kk;obtain ⟨ad,h1,ev⟩:=rx;subst ev;cases hz:zh[kk]? with
     | none=>rw [hz] at p; exact p.elim
     | some o =>
       rw [hz] at p;cases o with
       | dl xs =>
         simp only at p;obtain ⟨vs,q,r⟩:=RH.own kk ad _ h1 hz;cases k:atD xs i with
         | none=>simp only [k] at p; exact p.elim
         | some d =>
           simp only [k] at p;obtain ⟨v,k1,k2⟩:=QR2 r k;exact .inl ⟨_,vs,i,v,rfl,rfl,SqL.of q,k1,Post.done RH p k2⟩
       | zl xs =>
         simp only at p;obtain ⟨vs,q,r⟩:=RH.own kk ad _ h1 hz;cases k:atZ xs i with
         | none=>simp only [k] at p; exact p.elim
         | some d =>
           simp only [k] at p;obtain ⟨v,k1,k2⟩:=atZ_ok r k;exact .inl ⟨_,vs,i,v,rfl,rfl,SqL.of q,k1,Post.done RH p k2⟩
       | _=>exact p.elim
   . cases hz:P7 zx zh with
     | none=>rw [hz] at p; exact p.elim
     | some xs =>
       rw [hz] at p;simp only at p;cases k:atD xs i with
       | none=>simp only [k] at p; exact p.elim
       | some d =>
         simp only [k] at p;obtain ⟨ad,vs,ev,hs,r⟩:=Qf8 RH rx hz;subst ev;obtain ⟨v,k1,k2⟩:=QR2 r k;rcases hs with hs | hs
         . exact .inl ⟨_,vs,i,v,rfl,rfl,hs,k1,Post.done RH p k2⟩
         . exact .inr (.inl ⟨_,vs,i,v,rfl,rfl,hs,k1,Post.done RH p k2⟩)
 . exact p.elim
theorem P5 (hK:X.K=g.K) (ha:ZE g F X W a da) (hb:ZE g F X W b db) (hs:PlainIx b:=by exact fun _ _=>rfl):ZE g F X W (.Subscript a b pos) (Y1 opIx da db) :=
 PE.imp (pe_ix (r:=rIx g.K) (by rw [<- hK]; exact ix_seq) ha hb hs) fun _ _ _ h=>Qt3 low_ix h
def opAdd:Op2:=fun x y h=>match x,y with
 | .d (.int i),.d (.int j)=>.ok (.d (.int (i+j))) h
 | .d (.str s),.d (.str t)=>if s.length+t.length<=1000000 then .ok (.d (.str (s++t))) h else .bad
 | .d (.tup xs),.d (.tup ys)=>if xs.length+ys.length<=1000000 then .ok (.d (.tup (xs++ys))) h else .bad
 | x,y=>match B5 x h,B5 y h with
   | some xs,some ys=>if xs.length+ys.length<=1000000 then .ok (.d (.lst (xs++ys))) h else .bad
   | _,_=>.bad
theorem SOk.append {s t:List Nat} (a:SOk s) (b:SOk t) (h:s.length+t.length<=1000000):SOk (s++t):=by
 refine ⟨fun c hc=>?_,by rw [List.length_append]; exact Qm8 h⟩;rcases List.mem_append.mp hc with hc | hc
 . exact a.1 c hc
 . exact b.1 c hc
abbrev Qt8 (K:UZ9):R2:=fun x y H Q=>(fun x y H Q=>(fun x y H Q=>(fun x y H Q=>∃ i j,x = .int i/\y = .int j/\Q (.int (i+j)) H) x y H Q\/(fun x y H Q=>∃ i j,x = .str i/\y = .str j/\i.length+j.length<=sizeLine/\Q (.str (i++j)) H) x y H Q) x y H Q\/rCatA K x y H Q) x y H Q\/rCat x y H Q
theorem QD8:OpR X (binaryOp .Add) (Qt8 X.K):=OpR.or (OpR.or (OpR.or op_add op_add_str) op_catA) op_cat
theorem QU8:LowR2 g (Qt8 g.K) opAdd:=by
 intro F W ρ zσ zh σ H zx zy x y Q RH rx ry p;unfold opAdd at p
 split at p
 . rw [rz_int.mp rx,rz_int.mp ry];exact .inl (.inl (.inl ⟨_,_,rfl,rfl,Post.done RH p (rz_int.mpr rfl)⟩))
 . rename_i s t
   split at p
   . rename_i hl;obtain ⟨ex,okx⟩:=rz_str.mp rx;obtain ⟨ey,oky⟩:=rz_str.mp ry;rw [ex,ey];refine .inl (.inl (.inr ⟨_,_,rfl,rfl,?_,Post.done RH p (rz_str.mpr ⟨?_,okx.append oky hl⟩)⟩))
     . simpa [mkS,Str.length] using Qm8 hl
     . show V.str (⟨(mkS s).cps++(mkS t).cps⟩:Str)=_;simp [mkS]
   . exact p.elim
 . rename_i xs ys
   split at p
   . rename_i hl;obtain ⟨u,vs,e1,nu,q1,r1⟩:=rd_tup.mp rx;obtain ⟨w,us,e2,nw,q2,r2⟩:=rd_tup.mp ry;refine .inl (.inr ⟨u,w,vs,us,e1,e2,.inl q1,.inl q2,by rw [r1.length,r2.length]; exact Qm8 hl,fun hx=>?_,fun hx hy=>?_,fun hx hy pp np=>?_⟩)
     . have:xs=[]:=by
         have:=r1.length;rw [hx] at this;exact List.length_eq_zero_iff.mp this.symm
       subst this;rw [<- e2];exact Post.done RH p ry
     . have:ys=[]:=by
         have:=r2.length;rw [hy] at this;exact List.length_eq_zero_iff.mp this.symm
       subst this;rw [List.append_nil] at p;rw [<- e1];exact Post.done RH p rx
     . exact Z2 RH np p fun U nu' s=>rd_tup.mpr ⟨pp,_,rfl,nu',.inl upd_same,(RDs.mono s _ _ r1).append (RDs.mono s _ _ r2)⟩
   . exact p.elim
 . cases hx:B5 zx zh with
   | none=>simp only [hx] at p; exact p.elim
   | some xs =>
     cases hy:B5 zy zh with
     | none=>simp only [hx,hy] at p; exact p.elim
     | some ys =>
       simp only [hx,hy] at p
       split at p
       . rename_i hl;obtain ⟨u,vs,e1,q1,r1⟩:=O9 RH rx hx;obtain ⟨w,us,e2,q2,r2⟩:=O9 RH ry hy;refine .inr ⟨u,w,vs,us,e1,e2,q1,q2,by rw [r1.length,r2.length]; exact Qm8 hl,fun pp np=>?_⟩;exact Z2 RH np p fun U nu' s=>rd_lst.mpr ⟨pp,_,rfl,nu',upd_same,(RDs.mono s _ _ r1).append (RDs.mono s _ _ r2)⟩
       . exact p.elim
theorem M6 (hK:X.K=g.K) (ha:ZE g F X W a da) (hb:ZE g F X W b db):ZE g F X W (.BinOp a .Add b pos) (Y1 opAdd da db) :=
 QT8 (r:=Qt8 g.K) (by rw [<- hK]; exact QD8) QU8 ha hb
end
section
variable {g:G} {F:Fr} {X:Cx} {W:WX} {a b c e o:Expr} {es:List Expr} {da db dc:DE} {pos apos cpos:Pos} {T id:String} {name:Str}
abbrev OpM:=Z->List Z->ZH->Out Z
def isLst (z:Z) (h:ZH):Bool:=match z with
 | .d (.lst _)=>true
 | .d (.scr _)=>true
 | .r i=>match h[i]? with
   | some (.dl _)=>true
   | some (.zl _)=>true
   | _=>false
 | _=>false
def isStr (z:Z) (_:ZH):Bool:=match z with
 | .d (.str _)=>true
 | _=>false
def P6 (ty:Z->ZH->Bool) (op:OpM) (d:DE) (da:DA):DE:=fun s h=>(d s h).bnd fun z h1=>if ty z h1=true then (da s h1).bnd fun zs h2=>op z zs h2 else .bad
def QU9 (g:G) (r:V->List V->Hp->VK->Prop) (op:OpM):Prop:=∀ {F:Fr} {W:WX} {ρ:List Addr} {zσ:ZS} {zh:ZH} {σ:L2.St} {H:Hp} {zx:Z} {zs:List Z} {x:V} {vs:List V} {Q:VK},
 RelH g F ρ zh H->RZ g (UO F ρ zh) H ρ zx x->RZs g (UO F ρ zh) H ρ zs vs->Post g F W ρ zσ zh σ H (op zx zs zh) Q->r x vs H Q
def TyOk (g:G) (T:String) (ty:Z->ZH->Bool):Prop:=∀ {F:Fr} {ρ:List Addr} {zh:ZH} {H:Hp} {z:Z} {v:V},RelH g F ρ zh H->RZ g (UO F ρ zh) H ρ z v->ty z zh=true->tyV g.K T v H
theorem Qn0:TyOk g "list" isLst:=by
 intro F ρ zh H z v RH rz h;unfold isLst at h
 split at h
 . obtain ⟨a,vs,rfl,_,q,_⟩:=rd_lst.mp rz;exact .inl ⟨rfl,vs,SqL.of q⟩
 . obtain ⟨a,vs,rfl,q,_⟩:=rd_scr.mp rz;exact .inl ⟨rfl,vs,scL q⟩
 . rename_i i;obtain ⟨a,h1,rfl⟩:=rz;cases hz:zh[i]? with
   | none=>rw [hz] at h; cases h
   | some o =>
     rw [hz] at h;cases o with
     | dl xs =>
       obtain ⟨vs,q,_⟩:=RH.own i a _ h1 hz;exact .inl ⟨rfl,vs,SqL.of q⟩
     | zl xs =>
       obtain ⟨vs,q,_⟩:=RH.own i a _ h1 hz;exact .inl ⟨rfl,vs,SqL.of q⟩
     | _=>cases h
 . cases h
theorem ty_str:TyOk g "str" isStr:=by
 intro F ρ zh H z v RH rz h;unfold isStr at h
 split at h
 . obtain ⟨rfl,_⟩:=rz_str.mp rz;exact rfl
 . cases h
theorem Qt9 (pa:PlainAttrs T) (slot:Slot T name id) (hty:typeOf (.builtin id)=pure (.type "method_descriptor")) {r:V->List V->Hp->VK->Prop} {op:OpM} {ty:Z->ZH->Bool} (hK:X.K=g.K) (hm:MtR X id r) (hl:QU9 g r op) (hT:TyOk g T ty) (ho:ZE g F X W o da)
   (hbase:attributeBase o name X.env (eval o X.env)=eval o X.env:=by rfl) (hline:(apos.endLine == cpos.line)=true:=by rfl):ZE g F X W (.Call (.Attribute o name apos) [] [] cpos) (P6 ty op da dNil):=by
 refine PE.imp (pe_bm0 pa slot hty hm ho hbase hline) fun σ H Q ⟨ρ,zσ,zh,RH,RS,p⟩=>?_;refine ⟨ρ,zσ,zh,RH,RS,Post.bnd p fun ρ1 z zh1 v H1 e1 R1 rz p1=>?_⟩
 split at p1
 . rename_i ht;exact ⟨by rw [hK]; exact hT R1 rz ht,hl (zs:=[]) R1 rz rfl p1⟩
 . exact p1.elim
theorem QR3 (pa:PlainAttrs T) (slot:Slot T name id) (hty:typeOf (.builtin id)=pure (.type "method_descriptor")) {r:V->List V->Hp->VK->Prop} {op:OpM} {ty:Z->ZH->Bool} (hK:X.K=g.K) (hm:MtR X id r) (hl:QU9 g r op) (hT:TyOk g T ty) (ho:ZE g F X W o da) {d:DA} (ha:ZA g F X W (e::es) d)
   (hbase:attributeBase o name X.env (eval o X.env)=eval o X.env:=by rfl)
   (hfew:((backTo cpos (starEach (e::es) X.env)).all (fun x=>!x.1) && (backToKw cpos (keywordEach [] X.env)).all (fun x=>x.1.isSome)
     && decide ((e::es).length+([]:List Keyword).length+(if ([]:List Keyword).isEmpty then 0 else 1)<30))=true:=by rfl)
   (hline:(apos.endLine == cpos.line)=true:=by rfl) (hs:starEach (e::es) X.env=(false,eval e X.env)::starEach es X.env:=by rfl) (hplain:(backTo cpos (starEach es X.env)).any (·.1)=false:=by rfl) :
   ZE g F X W (.Call (.Attribute o name apos) (e::es) [] cpos) (P6 ty op da d):=by
 refine PE.imp (pe_bm pa slot hty hm ho ha hbase hfew hline hs hplain) fun σ H Q ⟨ρ,zσ,zh,RH,RS,p⟩=>?_;refine ⟨ρ,zσ,zh,RH,RS,Post.bnd p fun ρ1 z zh1 v H1 e1 R1 rz p1=>?_⟩
 split at p1
 . rename_i ht;refine ⟨by rw [hK]; exact hT R1 rz ht,ρ1,zσ,zh1,R1,RS.mono e1,PostA.bndE p1 fun ρ2 zs zh2 vs H2 e2 R2 rzs p2=>?_⟩;exact hl R2 (RZ.mono e2.stb e2.pre rz) rzs p2
 . exact p1.elim
theorem E8 {F:Fr} {W:WX} {ρ:List Addr} {zσ:ZS} {zh:ZH} {σ:L2.St} {H:Hp} (RH:RelH g F ρ zh H) {i:Nat} {a:Addr} {o:HO} {zo zo':ZO} {z:Z} {v:V} {Q:VK} (h1:ρ[i]? = some a) (h2:zh[i]? = some zo) (hl:zo.live=true)
   (p:Post g F W ρ zσ zh σ H (.ok z (zh.set i zo')) Q) (h:∀ U,Stb (UO F ρ zh) H U (upd H a o)->RO g U (upd H a o) ρ a zo') (hv:∀ U,Stb (UO F ρ zh) H U (upd H a o)->RZ g U (upd H a o) ρ z v):Q v (upd H a o):=by
 have s:Stb (UO F ρ zh) H (UO F ρ (zh.set i zo')) (upd H a o):=fun b u e nub =>
   ⟨by rw [upd_ne (fun z:b=a=>nub (by rw [z]; exact .inr ⟨i,zo,h1,h2,hl⟩))]; exact e,fun z=>nub (Ql8 z ⟨zo,h2,hl⟩)⟩
 obtain ⟨R',e⟩:=RH.set (o:=o) h1 h2 hl (h _ s);exact p ρ v _ e R' (hv _ s)
def opAppend:OpM:=fun x zs h=>match x,zs with
 | .r i,[z]=>match h[i]?,z with
   | some (.dl xs),.d y=>if xs.length<1000000 then .ok (.d .non) (h.set i (.dl (xs++[y]))) else .bad
   | some (.zl xs),z=>if xs.length<1000000 then .ok (.d .non) (h.set i (.zl (xs++[z]))) else .bad
   | some (.dl []),.r j=>.ok (.d .non) (h.set i (.zl [.r j]))
   | _,_=>.bad
 | _,_=>.bad
theorem QV0 {n:Nat} (h:n<1000000):n<sizeLine:=by rw [sizeLine_eq]; omega
theorem Qz3:QU9 g rAppend opAppend:=by
 intro F W ρ zσ zh σ H zx zs x vs Q RH rx rs p;unfold opAppend at p
 split at p
 . rename_i i z;obtain ⟨a,h1,rfl⟩:=rx;obtain ⟨v,rfl,rz⟩:=Z9 rs
   split at p
   . rename_i xs y hz
     split at p
     . rename_i hl;obtain ⟨us,q,r⟩:=RH.own i a _ h1 hz;refine ⟨a,us,v,rfl,rfl,q,by rw [r.length]; exact QV0 hl,?_⟩;exact E8 RH h1 hz rfl p (fun U s=>⟨_,upd_same,(RDs.mono s _ _ r).append (rds_cons.mpr ⟨v,[],rfl,RD.mono s _ _ rz,rds_nil.mpr rfl⟩)⟩) fun U s=>rz_non.mpr rfl
     . exact p.elim
   . rename_i xs z' hz
     split at p
     . rename_i hl;obtain ⟨us,q,r⟩:=RH.own i a _ h1 hz;refine ⟨a,us,v,rfl,rfl,q,by rw [r.length]; exact QV0 hl,?_⟩;exact E8 RH h1 hz rfl p (fun U s=>⟨_,upd_same,(RZs.mono s (Xr5 _) r).append ⟨v,[],rfl,RZ.mono s (Xr5 _) rz,rfl⟩⟩) fun U s=>rz_non.mpr rfl
     . exact p.elim
   . rename_i j hz;obtain ⟨us,q,r⟩:=RH.own i a _ h1 hz;rw [rds_nil.mp r] at q;refine ⟨a,[],v,rfl,rfl,q,by decide,?_⟩;exact E8 RH h1 hz rfl p (fun U s=>⟨_,upd_same,⟨v,[],rfl,RZ.mono s (Xr5 _) rz,rfl⟩⟩) fun U s=>rz_non.mpr rfl
   . exact p.elim
 . exact p.elim
def opPop:OpM:=fun x zs h=>match x,zs with
 | .r i,[]=>match h[i]? with
   | some (.dl xs)=>match xs.getLast? with
     | some y=>.ok (.d y) (h.set i (.dl xs.dropLast))
     | none=>.bad
   | _=>.bad
 | _,_=>.bad
theorem RDs.dropLast {U:Addr->Prop} {H:Hp}:∀ {ds:List D} {vs:List V},RDs g U H ds vs->RDs g U H ds.dropLast vs.dropLast
 | [],vs,h=>by rw [rds_nil.mp h]; exact rds_nil.mpr rfl
 | [d],vs,h=>by
   obtain ⟨v,vs',rfl,_,q⟩:=rds_cons.mp h;rw [rds_nil.mp q];exact rds_nil.mpr rfl
 | d::d2::ds,vs,h=>by
   obtain ⟨v,vs',rfl,r,q⟩:=rds_cons.mp h;obtain ⟨v2,vs2,rfl,r2,q2⟩:=rds_cons.mp q;exact rds_cons.mpr ⟨v,_,rfl,r,RDs.dropLast (ds:=d2::ds) q⟩
theorem RDs.reverse {U:Addr->Prop} {H:Hp}:∀ {ds:List D} {vs:List V},RDs g U H ds vs->RDs g U H ds.reverse vs.reverse
 | [],vs,h=>by rw [rds_nil.mp h]; exact rds_nil.mpr rfl
 | d::ds,vs,h=>by
   obtain ⟨v,vs',rfl,r,q⟩:=rds_cons.mp h;rw [List.reverse_cons,List.reverse_cons];exact (RDs.reverse q).append (rds_cons.mpr ⟨v,[],rfl,r,rds_nil.mpr rfl⟩)
theorem QV1:QU9 g rPop opPop:=by
 intro F W ρ zσ zh σ H zx zs x vs Q RH rx rs p;unfold opPop at p
 split at p
 . rename_i i;obtain ⟨a,h1,rfl⟩:=rx;rw [show vs=[] from rs]
   split at p
   . rename_i xs hz;obtain ⟨us,q,r⟩:=RH.own i a _ h1 hz;cases k:xs.getLast? with
     | none=>rw [k] at p; exact p.elim
     | some y =>
       rw [k] at p;rw [List.getLast?_eq_getElem?] at k;obtain ⟨u,k1,k2⟩:=RDs.get r k;refine ⟨a,us,u,rfl,rfl,q,by rw [r.length]; exact k1,?_⟩;exact E8 RH h1 hz rfl p (fun U s=>⟨_,upd_same,RDs.dropLast (RDs.mono s _ _ r)⟩) fun U s=>RD.mono s _ _ k2
   . exact p.elim
 . exact p.elim
def opReverse:OpM:=fun x zs h=>match x,zs with
 | .r i,[]=>match h[i]? with
   | some (.dl xs)=>.ok (.d .non) (h.set i (.dl xs.reverse))
   | _=>.bad
 | _,_=>.bad
theorem Qu0:QU9 g rReverse opReverse:=by
 intro F W ρ zσ zh σ H zx zs x vs Q RH rx rs p;unfold opReverse at p
 split at p
 . rename_i i;obtain ⟨a,h1,rfl⟩:=rx;rw [show vs=[] from rs]
   split at p
   . rename_i xs hz;obtain ⟨us,q,r⟩:=RH.own i a _ h1 hz;refine ⟨a,us,rfl,rfl,q,?_⟩;exact E8 RH h1 hz rfl p (fun U s=>⟨_,upd_same,RDs.reverse (RDs.mono s _ _ r)⟩) fun U s=>rz_non.mpr rfl
   . exact p.elim
 . exact p.elim
theorem E9 (hK:X.K=g.K) (ho:ZE g F X W o da) {d:DA} (ha:ZA g F X W [e] d)
   (hbase:attributeBase o "append" X.env (eval o X.env)=eval o X.env:=by rfl)
   (hfew:((backTo cpos (starEach [e] X.env)).all (fun x=>!x.1) && (backToKw cpos (keywordEach [] X.env)).all (fun x=>x.1.isSome)
     && decide ([e].length+([]:List Keyword).length+(if ([]:List Keyword).isEmpty then 0 else 1)<30))=true:=by rfl)
   (hline:(apos.endLine == cpos.line)=true:=by rfl) (hs:starEach [e] X.env=(false,eval e X.env)::starEach [] X.env:=by rfl) (hplain:(backTo cpos (starEach [] X.env)).any (·.1)=false:=by rfl) :
   ZE g F X W (.Call (.Attribute o "append" apos) [e] [] cpos) (P6 isLst opAppend da d) :=
 QR3 PySem.F.plainAttrs_list PySem.F.slot_list_append PySem.F.type_list_append hK mt_append Qz3 Qn0 ho ha hbase hfew hline hs hplain
theorem z_pop (hK:X.K=g.K) (ho:ZE g F X W o da) (hbase:attributeBase o "pop" X.env (eval o X.env)=eval o X.env:=by rfl) (hline:(apos.endLine == cpos.line)=true:=by rfl):ZE g F X W (.Call (.Attribute o "pop" apos) [] [] cpos) (P6 isLst opPop da dNil) :=
 Qt9 PySem.F.plainAttrs_list PySem.F.slot_list_pop PySem.F.type_list_pop hK mt_pop QV1 Qn0 ho hbase hline
theorem QD9 (hK:X.K=g.K) (ho:ZE g F X W o da) (hbase:attributeBase o "reverse" X.env (eval o X.env)=eval o X.env:=by rfl) (hline:(apos.endLine == cpos.line)=true:=by rfl):ZE g F X W (.Call (.Attribute o "reverse" apos) [] [] cpos) (P6 isLst opReverse da dNil) :=
 Qt9 PySem.F.plainAttrs_list PySem.F.slot_list_reverse PySem.F.type_list_reverse hK mt_reverse Qu0 Qn0 ho hbase hline
end
section
variable {g:G} {F:Fr} {X:Cx} {W:WX} {a b c e o:Expr} {es:List Expr} {da db dc:DE} {pos:Pos} {st:Stmt} {sts:List Stmt}
def PostS (g:G) (F:Fr) (W:WX) (ρ:List Addr) (zh:ZH) (H:Hp) (out:OutS) (D:Ends):Prop :=
 match out with
 | .nx s' h'=>∀ ρ' σ' H',Ext F ρ zh H ρ' h' H'->RelH g F ρ' h' H'->RelS g (UO F ρ' h') H' ρ' s' σ'->D.nx σ' H'
 | .rt z h'=>∀ ρ' v H',Ext F ρ zh H ρ' h' H'->RelH g F ρ' h' H'->RZ g (UO F ρ' h') H' ρ' z v->D.rt v H'
 | .bk s' h'=>∀ ρ' σ' H',Ext F ρ zh H ρ' h' H'->RelH g F ρ' h' H'->RelS g (UO F ρ' h') H' ρ' s' σ'->D.bk σ' H'
 | .ct s' h'=>∀ ρ' σ' H',Ext F ρ zh H ρ' h' H'->RelH g F ρ' h' H'->RelS g (UO F ρ' h') H' ρ' s' σ'->D.ct σ' H'
 | .exc x s' h'=>∀ ρ' σ' cls dx H',Ext F ρ zh H ρ' h' H'->RelH g F ρ' h' H'->RelS g (UO F ρ' h') H' ρ' s' σ'->RX g (UO F ρ' h') H' x cls dx->W cls dx σ' H'
 | .bad=>False
def lowS (g:G) (F:Fr) (W:WX) (d:DS):TS:=fun D σ H=>∃ ρ zσ zh,RelH g F ρ zh H/\RelS g (UO F ρ zh) H ρ zσ σ/\PostS g F W ρ zh H (d zσ zh) D
def ZS1 (g:G) (F:Fr) (X:Cx) (W:WX) (st:Stmt) (d:DS):Prop:=PS X st (lowS g F W d)
def ZSs (g:G) (F:Fr) (X:Cx) (W:WX) (st:List Stmt) (d:DS):Prop:=PSs X st (lowS g F W d)
theorem PS.imp {X:Cx} {e:Stmt} {t t':TS} (h:PS X e t) (k:∀ D σ H,t' D σ H->t D σ H):PS X e t':=⟨fun pins s σ H D I q=>h.run pins s σ H D I (k D σ H q)⟩
theorem PSs.imp {X:Cx} {e:List Stmt} {t t':TS} (h:PSs X e t) (k:∀ D σ H,t' D σ H->t D σ H):PSs X e t':=⟨fun pins s σ H D I q=>h.run pins s σ H D I (k D σ H q)⟩
section
variable {ρ ρ1:List Addr} {zσ zσ1:ZS} {zh zh1:ZH} {σ σ1:L2.St} {H H1:Hp} {D D':Ends}
theorem PostS.shift (e:Ext F ρ zh H ρ1 zh1 H1) {out:OutS} (p:PostS g F W ρ zh H out D):PostS g F W ρ1 zh1 H1 out D:=by
 cases out with
 | nx s h=>exact fun ρ' v H' e'=>p ρ' v H' (e.trans e')
 | rt z h=>exact fun ρ' v H' e'=>p ρ' v H' (e.trans e')
 | bk s h=>exact fun ρ' v H' e'=>p ρ' v H' (e.trans e')
 | ct s h=>exact fun ρ' v H' e'=>p ρ' v H' (e.trans e')
 | exc x s h=>exact fun ρ' v c d H' e'=>p ρ' v c d H' (e.trans e')
 | bad=>exact p
theorem PostS.done (r:RelH g F ρ zh H) (rs:RelS g (UO F ρ zh) H ρ zσ σ) (p:PostS g F W ρ zh H (.nx zσ zh) D):D.nx σ H:=p ρ σ H Ext.refl r rs
def Out.bndS {α:Type} (o:Out α) (s:ZS) (f:α->ZH->OutS):OutS :=
 match o with
 | .ok a h=>f a h
 | .exc x h=>.exc x s h
 | .bad=>.bad
theorem Post.bndS (rs:RelS g (UO F ρ zh) H ρ zσ σ) {out:Out Z} {f:Z->ZH->OutS} {K:VK} (p:PostS g F W ρ zh H (out.bndS zσ f) D)
   (h:∀ ρ1 z zh1 v H1,Ext F ρ zh H ρ1 zh1 H1->RelH g F ρ1 zh1 H1->RZ g (UO F ρ1 zh1) H1 ρ1 z v->PostS g F W ρ1 zh1 H1 (f z zh1) D->K v H1):Post g F W ρ zσ zh σ H out K:=by
 cases out with
 | ok z zh1=>exact fun ρ' v H' e1 e2 e3=>h ρ' z zh1 v H' e1 e2 e3 (PostS.shift e1 p)
 | exc x h=>exact fun ρ' cls dx H' e1 e2 e3=>p ρ' σ cls dx H' e1 e2 (rs.mono e1) e3
 | bad=>exact p
theorem PostT.bndS (rs:RelS g (UO F ρ zh) H ρ zσ σ) {out:Out Bool} {f:Bool->ZH->OutS} {K:Bool->Hp->Prop} (p:PostS g F W ρ zh H (out.bndS zσ f) D)
   (h:∀ ρ1 z zh1 H1,Ext F ρ zh H ρ1 zh1 H1->RelH g F ρ1 zh1 H1->PostS g F W ρ1 zh1 H1 (f z zh1) D->K z H1):PostT g F W ρ zσ zh σ H out K:=by
 cases out with
 | ok z zh1=>exact fun ρ' H' e1 e2=>h ρ' z zh1 H' e1 e2 (PostS.shift e1 p)
 | exc x h=>exact fun ρ' cls dx H' e1 e2 e3=>p ρ' σ cls dx H' e1 e2 (rs.mono e1) e3
 | bad=>exact p
end
def OutS.bnd (o:OutS) (f:ZS->ZH->OutS):OutS :=
 match o with
 | .nx s h=>f s h
 | o=>o
def dSkip:DS:=fun s h=>.nx s h
def U9 (d e:DS):DS:=fun s h=>(d s h).bnd e
theorem W2:ZSs g F X W [] dSkip:=PSs.imp pss_nil fun D σ H ⟨ρ,zσ,zh,RH,RS,p⟩=>PostS.done RH RS p
theorem Q8 {d d':DS} (h1:ZS1 g F X W st d) (h2:ZSs g F X W sts d'):ZSs g F X W (st::sts) (U9 d d'):=by
 refine PSs.imp (pss_cons h1 h2) fun D σ H ⟨ρ,zσ,zh,RH,RS,p⟩=>?_;refine ⟨ρ,zσ,zh,RH,RS,?_⟩;unfold U9 at p;cases k:d zσ zh with
 | nx s' h' =>
   rw [k] at p;exact fun ρ' σ' H' e1 e2 e3=>⟨ρ',s',h',e2,e3,PostS.shift e1 p⟩
 | rt z h'=>rw [k] at p; exact p
 | bk s' h'=>rw [k] at p; exact p
 | ct s' h'=>rw [k] at p; exact p
 | exc x s' h'=>rw [k] at p; exact p
 | bad=>rw [k] at p; exact p
theorem X1 {d:DS} (h1:ZS1 g F X W st d):ZSs g F X W [st] d:=pss_one h1
def D4 (d:DE):DS:=fun s h=>(d s h).bndS s fun _ h1=>.nx s h1
theorem D8 (he:ZE g F X W e da) (hs:swapsWith e none pos.line X.env=pure false:=by rfl):ZS1 g F X W (.Expr e pos) (D4 da):=by
 refine PS.imp (ps_expr he hs) fun D σ H ⟨ρ,zσ,zh,RH,RS,p⟩=>?_;exact ⟨ρ,zσ,zh,RH,RS,Post.bndS RS p fun ρ1 z zh1 v H1 e1 R1 rz p1=>PostS.done R1 (RS.mono e1) p1⟩
def L0 (d:DE):DS:=fun s h=>(d s h).bndS s fun z h1=>.rt z h1
theorem Z1 (he:ZE g F X W e da):ZS1 g F X W (.Return (some e) pos) (L0 da):=by
 refine PS.imp (ps_ret he) fun D σ H ⟨ρ,zσ,zh,RH,RS,p⟩=>?_;exact ⟨ρ,zσ,zh,RH,RS,Post.bndS RS p fun ρ1 z zh1 v H1 e1 R1 rz p1=>p1 ρ1 v H1 Ext.refl R1 rz⟩
def dIf (t:DT) (d d':DS):DS:=fun s h=>(t s h).bndS s fun b h1=>if b=true then d s h1 else d' s h1
theorem H8 {t:DT} {d d':DS} {xs ys:List Stmt} (hc:ZT g F X W c t) (ha:ZSs g F X W xs d) (hb:ZSs g F X W ys d'):ZS1 g F X W (.If c xs ys pos) (dIf t d d'):=by
 refine PS.imp (ps_if hc ha hb) fun D σ H ⟨ρ,zσ,zh,RH,RS,p⟩=>?_;refine ⟨ρ,zσ,zh,RH,RS,PostT.bndS RS p fun ρ1 b zh1 H1 e1 R1 p1=>?_⟩;cases b with
 | true=>exact iteT ⟨ρ1,zσ,zh1,R1,RS.mono e1,p1⟩
 | false=>exact iteF ⟨ρ1,zσ,zh1,R1,RS.mono e1,p1⟩
def QE0 (i:Nat) (s:ZS) (h:ZH):OutS:=match s[i]? with
 | some (some (.r k))=>match h[k]? with
   | some (.dl xs)=>.nx (s.set i (some (.d (.lst xs)))) (h.set k .gone)
   | _=>.bad
 | _=>.bad
def Xb7 (i:Nat) (d:DS):DS:=fun s h=>(QE0 i s h).bnd d
theorem RelS.set {U:Addr->Prop} {H:Hp} {ρ:List Addr} {zσ:ZS} {σ:L2.St} (r:RelS g U H ρ zσ σ) {i:Nat} {z:Z} {v:V} (rz:RZ g U H ρ z v):RelS g U H ρ (zσ.set i (some z)) (σ.set i (some v)):=by
 refine ⟨by simp [r.1],fun j y h=>?_⟩
 by_cases e:i=j
 . subst e;obtain ⟨hl,k⟩:=Xr0.mp h;rw [List.getElem_set_self] at k;cases k;have hl2:i<σ.length:=by rw [r.1]; simpa using hl
   exact ⟨v,by rw [Xr3 hl2],rz⟩
 . rw [List.getElem?_set_ne e] at h;obtain ⟨u,h1,h2⟩:=r.2 j y h;exact ⟨u,by rw [List.getElem?_set_ne e]; exact h1,h2⟩
theorem RelS.reset {U:Addr->Prop} {H:Hp} {ρ:List Addr} {zσ:ZS} {σ:L2.St} (r:RelS g U H ρ zσ σ) {i:Nat} {z:Z} {v:V} (hv:σ[i]? = some (some v)) (rz:RZ g U H ρ z v):RelS g U H ρ (zσ.set i (some z)) σ:=by
 have q:=r.set (i:=i) rz
 have e:σ.set i (some v)=σ:=by
   apply List.ext_getElem?;intro j
   by_cases k:i=j
   . subst k;obtain ⟨hl,_⟩:=Xr0.mp hv;rw [Xr3 hl,hv]
   . rw [List.getElem?_set_ne k]
 rw [e] at q;exact q
theorem QR4 (i:Nat) {d:DS} (h:ZSs g F X W sts d):ZSs g F X W sts (Xb7 i d):=by
 refine PSs.imp h fun D σ H ⟨ρ,zσ,zh,RH,RS,p⟩=>?_;unfold Xb7 QE0 at p
 split at p
 . rename_i k hs;obtain ⟨v,hv,a,h1,rfl⟩:=RS.2 i _ hs
   split at p
   . rename_i xs hz;obtain ⟨us,q,r⟩:=RH.own k a _ h1 hz;obtain ⟨R1,e1⟩:=RH.freeze hz rfl;refine ⟨ρ,_,_,R1,(RS.mono e1).reset hv (z:=.d (.lst xs)) ?_,PostS.shift e1 p⟩;exact rd_lst.mpr ⟨a,us,rfl,RH.gone_notU h1,q,RDs.mono e1.stb _ _ r⟩
   . exact p.elim
 . exact p.elim
abbrev DG:=Z->ZS->ZH->OutS
def lowG (g:G) (F:Fr) (W:WX) (d:DG):TG:=fun v σ H Q=>∃ ρ zσ zh z,RelH g F ρ zh H/\RelS g (UO F ρ zh) H ρ zσ σ/\RZ g (UO F ρ zh) H ρ z v/\PostS g F W ρ zh H (d z zσ zh) { nx:=Q,rt:=fun _ _=>False }
def ZG (g:G) (F:Fr) (X:Cx) (W:WX) (e:Expr) (d:DG):Prop:=PG X e (lowG g F W d)
theorem PG.imp {X:Cx} {e:Expr} {t t':TG} (h:PG X e t) (k:∀ v σ H Q,t' v σ H Q->t v σ H Q):PG X e t':=⟨fun pins s σ H v u Q I r q=>h.run pins s σ H v u Q I r (k v σ H Q q)⟩
def Z8 (i:Nat):DG:=fun z s h=>.nx (s.set i (some z)) h
theorem B0 (i:Nat) {x:Str} (hN:X.N.Nodup) (hi:X.N[i]? = some x:=by rfl) (hx:Loc X.env.scope x:=by first | exact Or.inl rfl | exact Or.inr rfl)
   (hf:X.fn x=true\/X.env.scope.names.lookup x=some .local:=by first | exact .inl rfl | exact .inr rfl | assumption):ZG g F X W (.Name x pos) (Z8 i):=by
 refine PG.imp (pg_name hN hi hx hf) fun v σ H Q ⟨ρ,zσ,zh,z,RH,RS,rz,p⟩=>?_;exact p ρ _ H Ext.refl RH (RS.set rz)
def K7 (d:DE) (t:DG):DS:=fun s h=>(d s h).bndS s fun z h1=>t z s h1
theorem PostS.ends {ρ:List Addr} {zh:ZH} {H:Hp} {out:OutS} {D:Ends} (p:PostS g F W ρ zh H out D) (n:∀ z h,out ≠ .rt z h) (nb:∀ s h,out ≠ .bk s h) (nc:∀ s h,out ≠ .ct s h):PostS g F W ρ zh H out { nx:=D.nx,rt:=fun _ _=>False }:=by
 cases out with
 | nx s h=>exact p
 | rt z h=>exact absurd rfl (n z h)
 | bk s h=>exact absurd rfl (nb s h)
 | ct s h=>exact absurd rfl (nc s h)
 | exc x s h=>exact p
 | bad=>exact p
def GOk (t:DG):Prop:=∀ z s h,(∀ z' h',t z s h ≠ .rt z' h')/\(∀ s' h',t z s h ≠ .bk s' h') /\ ∀ s' h',t z s h ≠ .ct s' h'
theorem B1 {i:Nat}:GOk (Z8 i):=fun _ _ _=>⟨(fun _ _ q=>nomatch q),(fun _ _ q=>nomatch q),(fun _ _ q=>nomatch q)⟩
theorem QE1 {tg:Expr} {t:DG} (he:ZE g F X W e da) (hg:ZG g F X W tg t) (hk:GOk t) (hs:swapsWithSole [tg] e pos.line X.env=pure false:=by rfl) (hw:swappedStores [tg] e X.env=pure none:=by rfl)
   (h1:(assignEach [tg] X.env).map (·.2)=[assign tg X.env]:=by rfl):ZS1 g F X W (.Assign [tg] e pos) (K7 da t):=by
 refine PS.imp (ps_asg he hg hs hw h1) fun D σ H ⟨ρ,zσ,zh,RH,RS,p⟩=>?_;refine ⟨ρ,zσ,zh,RH,RS,Post.bndS RS p fun ρ1 z zh1 v H1 e1 R1 rz p1=>?_⟩;exact ⟨ρ1,zσ,zh1,z,R1,RS.mono e1,rz,p1.ends (hk z zσ zh1).1 (hk z zσ zh1).2.1 (hk z zσ zh1).2.2⟩
theorem Z3 (i:Nat) {x:Str} {pos':Pos} (hN:X.N.Nodup) (he:ZE g F X W e da) (hi:X.N[i]? = some x:=by rfl) (hx:Loc X.env.scope x:=by first | exact Or.inl rfl | exact Or.inr rfl)
   (hs:swapsWith e (some (.Name x pos')) pos.line X.env=pure false:=by rfl) (hf:X.fn x=true\/X.env.scope.names.lookup x=some .local:=by first | exact .inl rfl | exact .inr rfl | assumption) :
   ZS1 g F X W (.Assign [.Name x pos'] e pos) (K7 da (Z8 i)):=by
 refine PS.imp (ps_set hN hi hx he hs hf) fun D σ H ⟨ρ,zσ,zh,RH,RS,p⟩=>?_;refine ⟨ρ,zσ,zh,RH,RS,Post.bndS RS p fun ρ1 z zh1 v H1 e1 R1 rz p1=>?_⟩;exact p1 ρ1 _ H1 Ext.refl R1 ((RS.mono e1).set rz)
structure ZIt where
 items:List Z
 own:Option (Nat × ZO)
def ZIt.guard (it:ZIt) (h:ZH):Prop:=match it.own with
 | none=>True
 | some (i,o)=>h[i]? = some o
def ItOk (g:G) (F:Fr) (ρ:List Addr) (zh:ZH) (H:Hp) (J:It) (it:ZIt):Prop:=∀ (F1:Fr) ρ1 zh1 H1,ρ<+:ρ1->Stb (UO F ρ zh) H (UO F1 ρ1 zh1) H1->RelH g F1 ρ1 zh1 H1->it.guard zh1 ->
 (∀ k z,it.items[k]? = some z->J.go k H1 /\ ∀ x H2,J.yld k H1 x H2->Ext F1 ρ1 zh1 H1 ρ1 zh1 H2/\RelH g F1 ρ1 zh1 H2/\RZ g (UO F1 ρ1 zh1) H2 ρ1 z x)/\J.stop it.items.length H1
abbrev DI:=ZS->ZH->Out ZIt
def Qu1 (g:G) (F:Fr) (W:WX) (ρ:List Addr) (zσ:ZS) (zh:ZH) (σ:L2.St) (H:Hp) (out:Out ZIt) (R:It->Hp->Prop):Prop :=
 match out with
 | .ok it zh'=>∀ ρ' J H',Ext F ρ zh H ρ' zh' H'->RelH g F ρ' zh' H'->it.guard zh'->ItOk g F ρ' zh' H' J it->R J H'
 | .exc x zh'=>∀ ρ' cls dx H',Ext F ρ zh H ρ' zh' H'->RelH g F ρ' zh' H'->RX g (UO F ρ' zh') H' x cls dx->W cls dx σ H'
 | .bad=>False
def lowI (g:G) (F:Fr) (W:WX) (d:DI):TI:=fun σ H R=>∃ ρ zσ zh,RelH g F ρ zh H/\RelS g (UO F ρ zh) H ρ zσ σ/\Qu1 g F W ρ zσ zh σ H (d zσ zh) R
def ZI (g:G) (F:Fr) (X:Cx) (W:WX) (tg:Expr) (e:Expr) (d:DI):Prop:=PI X tg e (lowI g F W d)
theorem PI.imp {X:Cx} {tg e:Expr} {t t':TI} (h:PI X tg e t) (k:∀ σ H R,t' σ H R->t σ H R):PI X tg e t':=⟨fun pins s σ H R I q=>h.run pins s σ H R I (k σ H R q)⟩
open Classical in
def V8 (gd:ZH->Prop) (t:DG) (d:DS):List Z->DS
 | [],s,h=>.nx s h
 | z :: zs,s,h=>match t z s h with
   | .nx s1 h1=>match d s1 h1 with
     | .nx s2 h2=>if gd h2 then V8 gd t d zs s2 h2 else .bad
     | .ct s2 h2=>if gd h2 then V8 gd t d zs s2 h2 else .bad
     | .bk s2 h2=>.nx s2 h2
     | o=>o
   | o=>o
def Qk2 (i:DI) (t:DG) (d:DS):DS:=fun s h=>(i s h).bndS s fun it h1=>V8 it.guard t d it.items s h1
theorem G1 {iter tg:Expr} {body:List Stmt} {di:DI} {t:DG} {d:DS} (hp:PassesOwn (model X.prog X.w) X.A X.env X.xe) (hc:X.calm=true) (hi:ZI g F X W tg iter di) (hg:ZG g F X W tg t) (hk:GOk t) (hb:ZSs g F X W body d)
   (hs:∀ x,foldedSetIterable iter X.env x=pure x:=by intro _; rfl):ZS1 g F X W (.For tg iter body [] pos) (Qk2 di t d):=by
 refine PS.imp (ps_for hp hc hi hg hb hs) fun D σ H ⟨ρ,zσ,zh,RH,RS,p⟩=>?_;refine ⟨ρ,zσ,zh,RH,RS,?_⟩;unfold Qk2 at p;cases k:di zσ zh with
 | bad=>rw [k] at p; exact p.elim
 | exc x h' =>
   rw [k] at p;exact fun ρ' cls dx H' e1 e2 e3=>p ρ' σ cls dx H' e1 e2 (RS.mono e1) e3
 | ok it zh0 =>
   rw [k] at p;have p:PostS g F W ρ zh H (V8 it.guard t d it.items zσ zh0) D:=p;refine fun ρ0 J H0 e0 R0 hg0 ok=>?_
   refine ⟨fun i m σ1 H1=>m=it.items.length - i/\i<=it.items.length /\ ∃ ρ1 zσ1 zh1,RelH g F ρ1 zh1 H1/\RelS g (UO F ρ1 zh1) H1 ρ1 zσ1 σ1/\Ext F ρ0 zh0 H0 ρ1 zh1 H1/\it.guard zh1/\PostS g F W ρ1 zh1 H1 (V8 it.guard t d (it.items.drop i) zσ1 zh1) D,
     ⟨_,rfl,Nat.zero_le _,ρ0,zσ,zh0,R0,RS.mono e0,Ext.refl,hg0,PostS.shift e0 p⟩,?_⟩
   rintro i m σ1 H1 ⟨rfl,hi,ρ1,zσ1,zh1,R1,S1,e1,g1,p1⟩;obtain ⟨hgo,hstop⟩:=ok F ρ1 zh1 H1 e1.pre e1.stb R1 g1
   by_cases hlt:i<it.items.length
   . refine .inr ?_;have hd:it.items.drop i=it.items[i]::it.items.drop (i+1):=List.drop_eq_getElem_cons hlt;rw [hd] at p1;obtain ⟨go,yl⟩:=hgo i _ (Xq6 hlt)
     refine ⟨go,fun σ' H'=>i+1<=it.items.length /\ ∃ ρ2 zσ2 zh2,RelH g F ρ2 zh2 H'/\RelS g (UO F ρ2 zh2) H' ρ2 zσ2 σ'/\Ext F ρ0 zh0 H0 ρ2 zh2 H'/\it.guard zh2/\PostS g F W ρ2 zh2 H' (V8 it.guard t d (it.items.drop (i+1)) zσ2 zh2) D,
       fun σ' H' q=>⟨it.items.length - (i+1),by omega,rfl,q⟩,fun x H2 y=>?_⟩
     obtain ⟨e2,R2,rz⟩:=yl x H2 y;refine ⟨ρ1,zσ1,zh1,it.items[i],R2,S1.mono e2,rz,?_⟩;unfold V8 at p1;have p1:=PostS.shift e2 p1;have kk:=hk it.items[i] zσ1 zh1;cases ht:t it.items[i] zσ1 zh1 with
     | bad=>rw [ht] at p1; exact p1
     | rt z h'=>exact absurd ht (kk.1 z h')
     | bk z h'=>exact absurd ht (kk.2.1 z h')
     | ct z h'=>exact absurd ht (kk.2.2 z h')
     | exc x' s' h'=>rw [ht] at p1; exact p1
     | nx s3 h3 =>
       rw [ht] at p1;simp only at p1;refine fun ρ3 σ3 H3 e3 R3 S3=>⟨ρ3,s3,h3,R3,S3,?_⟩;have p1:=PostS.shift e3 p1;have e03:Ext F ρ0 zh0 H0 ρ3 h3 H3:=(e1.trans e2).trans e3;cases hd':d s3 h3 with
       | bad=>rw [hd'] at p1; exact p1
       | rt z h'=>rw [hd'] at p1; exact p1
       | exc x' s' h'=>rw [hd'] at p1; exact p1
       | bk s4 h4 =>
         rw [hd'] at p1;exact p1
       | nx s4 h4 =>
         rw [hd'] at p1;simp only at p1
         by_cases hgd:it.guard h4
         . rw [if_pos hgd] at p1;exact fun ρ4 σ4 H4 e4 R4 S4=>⟨hlt,ρ4,s4,h4,R4,S4,e03.trans e4,hgd,PostS.shift e4 p1⟩
         . rw [if_neg hgd] at p1; exact p1.elim
       | ct s4 h4 =>
         rw [hd'] at p1;simp only at p1
         by_cases hgd:it.guard h4
         . rw [if_pos hgd] at p1;exact fun ρ4 σ4 H4 e4 R4 S4=>⟨hlt,ρ4,s4,h4,R4,S4,e03.trans e4,hgd,PostS.shift e4 p1⟩
         . rw [if_neg hgd] at p1; exact p1.elim
   . have e:i=it.items.length:=by omega
     subst e;rw [List.drop_length] at p1;exact .inl ⟨hstop,PostS.done R1 S1 p1⟩
def iSeq (d:DE):DI:=fun s h=>(d s h).bnd fun z h1=>match z with
 | .d (.lst xs)=>.ok ⟨xs.map .d,none⟩ h1
 | .r i=>match h1[i]? with
   | some (.dl xs)=>.ok ⟨xs.map .d,some (i,.dl xs)⟩ h1
   | some (.zl zs)=>.ok ⟨zs,some (i,.zl zs)⟩ h1
   | _=>.bad
 | _=>.bad
theorem Qn1 {U:Addr->Prop} {H:Hp} {ρ:List Addr}:∀ {xs:List D} {vs:List V},RDs g U H xs vs->RZs g U H ρ (xs.map .d) vs
 | [],vs,h=>rds_nil.mp h
 | d::ds,vs,h=>by
   obtain ⟨v,vs',e,r,q⟩:=rds_cons.mp h;exact ⟨v,vs',e,r,Qn1 q⟩
theorem Post.bndI {ρ:List Addr} {zσ:ZS} {zh:ZH} {σ:L2.St} {H:Hp} {out:Out Z} {f:Z->ZH->Out ZIt} {R:It->Hp->Prop} {K:VK} (p:Qu1 g F W ρ zσ zh σ H (out.bnd f) R)
   (h:∀ ρ1 z zh1 v H1,Ext F ρ zh H ρ1 zh1 H1->RelH g F ρ1 zh1 H1->RZ g (UO F ρ1 zh1) H1 ρ1 z v->Qu1 g F W ρ1 zσ zh1 σ H1 (f z zh1) R->K v H1):Post g F W ρ zσ zh σ H out K:=by
 cases out with
 | ok z zh1 =>
   refine fun ρ' v H' e1 e2 e3=>h ρ' z zh1 v H' e1 e2 e3 ?_;have p:Qu1 g F W ρ zσ zh σ H (f z zh1) R:=p;cases hf:f z zh1 with
   | ok it h2=>rw [hf] at p; exact fun ρ2 J H2 e4=>p ρ2 J H2 (e1.trans e4)
   | exc x h2=>rw [hf] at p; exact fun ρ2 c d H2 e4=>p ρ2 c d H2 (e1.trans e4)
   | bad=>rw [hf] at p; exact p
 | exc x h=>exact p
 | bad=>exact p
theorem QV2 {tg:Expr} (hK:X.K=g.K) (he:ZE g F X W e da):ZI g F X W tg e (iSeq da):=by
 refine PI.imp (pi_list he) fun σ H R ⟨ρ,zσ,zh,RH,RS,p⟩=>?_;refine ⟨ρ,zσ,zh,RH,RS,Post.bndI p fun ρ1 z zh1 v H1 e1 R1 rz p1=>?_⟩;rw [hK]
 split at p1
 . rename_i xs;obtain ⟨a,vs,rfl,nu,q,r⟩:=rd_lst.mp rz;refine ⟨a,rfl,⟨vs,SqL.of q⟩,p1 ρ1 _ H1 Ext.refl R1 trivial ?_⟩;intro F2 ρ2 zh2 H2 pre stb R2 _;have q2:=(stb a _ q nu).1;have r2:=RDs.mono stb _ _ r;refine ⟨fun k z hz=>?_,vs,SqL.of q2,by rw [Xq5,r2.length]; exact Nat.le_refl _⟩;obtain ⟨v,h1,h2⟩:=RZs.get (Qn1 (ρ:=ρ2) r2) hz;refine ⟨⟨vs,v,SqL.of q2,h1⟩,fun x H3 ⟨e3,y⟩=>?_⟩;subst e3;have:=y vs (SqL.of q2);rw [h1] at this;cases this;exact ⟨Ext.refl,R2,h2⟩
 . rename_i i;obtain ⟨a,h1,rfl⟩:=rz
   split at p1
   . rename_i xs hz;obtain ⟨vs,q,r⟩:=R1.own i a _ h1 hz;refine ⟨a,rfl,⟨vs,SqL.of q⟩,p1 ρ1 _ H1 Ext.refl R1 hz ?_⟩;intro F2 ρ2 zh2 H2 pre stb R2 gd;obtain ⟨us,q2,r2⟩:=R2.own i a _ (M3 pre h1) gd;refine ⟨fun k z hz=>?_,us,SqL.of q2,by rw [Xq5,r2.length]; exact Nat.le_refl _⟩;obtain ⟨v,h1,h2⟩:=RZs.get (Qn1 (ρ:=ρ2) r2) hz;refine ⟨⟨us,v,SqL.of q2,h1⟩,fun x H3 ⟨e3,y⟩=>?_⟩;subst e3;have:=y us (SqL.of q2);rw [h1] at this;cases this;exact ⟨Ext.refl,R2,h2⟩
   . rename_i xs hz;obtain ⟨vs,q,r⟩:=R1.own i a _ h1 hz;refine ⟨a,rfl,⟨vs,SqL.of q⟩,p1 ρ1 _ H1 Ext.refl R1 hz ?_⟩;intro F2 ρ2 zh2 H2 pre stb R2 gd;obtain ⟨us,q2,r2⟩:=R2.own i a _ (M3 pre h1) gd;refine ⟨fun k z hz=>?_,us,SqL.of q2,by rw [r2.length]; exact Nat.le_refl _⟩;obtain ⟨v,h1,h2⟩:=RZs.get r2 hz;refine ⟨⟨us,v,SqL.of q2,h1⟩,fun x H3 ⟨e3,y⟩=>?_⟩;subst e3;have:=y us (SqL.of q2);rw [h1] at this;cases this;exact ⟨Ext.refl,R2,h2⟩
   . exact p1.elim
 . exact p1.elim
def iTupI (d:DE):DI:=fun s h=>(d s h).bnd fun z h1=>match z with
 | .d (.tup xs)=>.ok ⟨xs.map .d,none⟩ h1
 | _=>.bad
theorem zi_tup {tg:Expr} (hK:X.K=g.K) (he:ZE g F X W e da):ZI g F X W tg e (iTupI da):=by
 refine PI.imp (pi_tup he) fun σ H R ⟨ρ,zσ,zh,RH,RS,p⟩=>?_;refine ⟨ρ,zσ,zh,RH,RS,Post.bndI p fun ρ1 z zh1 v H1 e1 R1 rz p1=>?_⟩;rw [hK]
 split at p1
 . rename_i xs;obtain ⟨a,vs,rfl,nu,q,r⟩:=rd_tup.mp rz;refine ⟨a,rfl,⟨vs,.inl q⟩,p1 ρ1 _ H1 Ext.refl R1 trivial ?_⟩;intro F2 ρ2 zh2 H2 pre stb R2 _;have q2:SqT g.K H2 a vs:=.inl (Rd.stb stb nu q).1;have r2:=RDs.mono stb _ _ r;refine ⟨fun k z hz=>?_,vs,q2,by rw [Xq5,r2.length]; exact Nat.le_refl _⟩;obtain ⟨v,h1,h2⟩:=RZs.get (Qn1 (ρ:=ρ2) r2) hz;refine ⟨⟨vs,v,q2,h1⟩,fun x H3 ⟨e3,y⟩=>?_⟩;subst e3;have:=y vs q2;rw [h1] at this;cases this;exact ⟨Ext.refl,R2,h2⟩
 . exact p1.elim
def H9 (lo:Int) (n:Nat):List Z:=(List.range n).map fun (i:Nat)=>.d (.int (lo+i))
def K0 (d:DA):DI:=fun s h=>(d s h).bnd fun zs h1=>match zs with
 | [.d (.int j)]=>if decide (-4611686018427387904<=j) && decide (j<4611686018427387904) then .ok ⟨H9 0 j.toNat,none⟩ h1 else .bad
 | _=>.bad
theorem Qz4 {ρ:List Addr} {zh:ZH} {H:Hp} {lo:Int} {n:Nat}:ItOk g F ρ zh H (Itr lo n) ⟨H9 lo n,none⟩:=by
 intro F2 ρ2 zh2 H2 pre stb R2 _;refine ⟨fun k z hz=>?_,by show n<=(H9 lo n).length; simp [H9]⟩;unfold H9 at hz;obtain ⟨hl,e⟩:=Xr0.mp hz;simp at hl e;subst e;refine ⟨hl,fun x H3 ⟨e3,y⟩=>?_⟩;subst e3; subst y;exact ⟨Ext.refl,R2,rz_int.mpr rfl⟩
theorem PostA.bndI {ρ:List Addr} {zσ:ZS} {zh:ZH} {σ:L2.St} {H:Hp} {out:Out (List Z)} {f:List Z->ZH->Out ZIt} {R:It->Hp->Prop} {K:List V->Hp->Prop} (p:Qu1 g F W ρ zσ zh σ H (out.bnd f) R)
   (h:∀ ρ1 z zh1 v H1,Ext F ρ zh H ρ1 zh1 H1->RelH g F ρ1 zh1 H1->RZs g (UO F ρ1 zh1) H1 ρ1 z v->Qu1 g F W ρ1 zσ zh1 σ H1 (f z zh1) R->K v H1):PostA g F W ρ zσ zh σ H out K:=by
 cases out with
 | ok z zh1 =>
   refine fun ρ' v H' e1 e2 e3=>h ρ' z zh1 v H' e1 e2 e3 ?_;have p:Qu1 g F W ρ zσ zh σ H (f z zh1) R:=p;cases hf:f z zh1 with
   | ok it h2=>rw [hf] at p; exact fun ρ2 J H2 e4=>p ρ2 J H2 (e1.trans e4)
   | exc x h2=>rw [hf] at p; exact fun ρ2 c d H2 e4=>p ρ2 c d H2 (e1.trans e4)
   | bad=>rw [hf] at p; exact p
 | exc x h=>exact p
 | bad=>exact p
theorem Z4 {tg:Expr} {p:Pos} {d:DA} (hg:Gl X "range") (hm:X.mg "range" = none) (ha:ZA g F X W [a] d) (hs:starEach [a] X.env=[(false,eval a X.env)]:=by rfl):ZI g F X W tg (.Call (.Name "range" p) [a] [] pos) (K0 d):=by
 refine PI.imp (pi_range1 hg hm ha hs) fun σ H R ⟨ρ,zσ,zh,RH,RS,p⟩=>?_;refine ⟨ρ,zσ,zh,RH,RS,PostA.bndI p fun ρ1 zs zh1 vs H1 e1 R1 rz p1=>?_⟩
 split at p1
 . rename_i j;obtain ⟨v,rfl,q⟩:=Z9 rz;rw [rz_int.mp q]
   split at p1
   . rename_i hb;simp only [Bool.and_eq_true,decide_eq_true_eq] at hb;exact ⟨j,rfl,by omega,by omega,p1 ρ1 _ H1 Ext.refl R1 trivial Qz4⟩
   . exact p1.elim
 . exact p1.elim
end
def K3:Z->List Nat
 | .r i=>[i]
 | .d _=>[]
 | .e _=>[]
def M7:ZO->List Nat
 | .zl zs=>zs.flatMap K3
 | .zdic _ zs=>zs.flatMap K3
 | .ins _ fs=>fs.flatMap fun p=>K3 p.2
 | _=>[]
def P0 (h:ZH):Nat->List Nat->List Nat->List Nat
 | 0,_,acc=>acc
 | _+1,[],acc=>acc
 | n+1,i::w,acc=>if acc.contains i then P0 h n w acc else P0 h n (M7 (h.getD i .gone)++w) (acc++[i])
def Qa0:List Nat->Bool
 | []=>true
 | i::r=>!r.contains i && Qa0 r
def T6 (h:ZH) (fp:List Nat) (zs:List Z):Bool :=
 (zs.flatMap K3).all (fun i=>fp.contains i) && fp.all (fun i=>decide (i<h.length) && (M7 (h.getD i .gone)).all fun j=>fp.contains j) && Qa0 fp
def Qk3 (fp:List Nat):Z->Z
 | .r i=>.r (fp.idxOf i)
 | .d x=>.d x
 | .e a=>.e a
def QM9 (fp:List Nat):ZO->ZO
 | .zl zs=>.zl (zs.map (Qk3 fp))
 | .zdic ks zs=>.zdic ks (zs.map (Qk3 fp))
 | .ins c fs=>.ins c (fs.map fun p=>(p.1,Qk3 fp p.2))
 | o=>o
def unZ (fp:List Nat) (n:Nat):Z->Z
 | .r j=>.r (if j<fp.length then fp.getD j 0 else n+(j - fp.length))
 | .d x=>.d x
 | .e a=>.e a
def unO (fp:List Nat) (n:Nat):ZO->ZO
 | .zl zs=>.zl (zs.map (unZ fp n))
 | .zdic ks zs=>.zdic ks (zs.map (unZ fp n))
 | .ins c fs=>.ins c (fs.map fun p=>(p.1,unZ fp n p.2))
 | o=>o
def Qa1:List Nat->List ZO->ZH->ZH
 | i::is,o::os,h=>Qa1 is os (h.set i o)
 | _,_,h=>h
def Q9 (fp:List Nat) (h h':ZH):ZH:=Qa1 fp (h'.map (unO fp h.length)) h++(h'.drop fp.length).map (unO fp h.length)
abbrev Sem:=List Z->ZH->Out Z
@[irreducible] def J8 (M:Sem) (zs:List Z) (h:ZH):Out Z :=
 let fp:=P0 h 40 (zs.flatMap K3) []
 if T6 h fp zs=true then
   match M (zs.map (Qk3 fp)) (fp.map fun i=>QM9 fp (h.getD i .gone)) with
   | .ok z h'=>.ok (unZ fp h.length z) (Q9 fp h h')
   | .exc x h'=>.exc x (Q9 fp h h')
   | .bad=>.bad
 else .bad
def lowF (g:G) (M:Sem):Sp:=fun vs H Q E=>∃ F ρ zs zh,RelH g F ρ zh H/\RZs g (UO F ρ zh) H ρ zs vs/\Post g F (fun c d _ H'=>E c d H') ρ [] zh [] H (M zs zh) Q
theorem Qh8:∀ {l:List Nat},Qa0 l=true->l.Nodup
 | [],_=>List.nodup_nil
 | i::r,h=>by
   unfold Qa0 at h;simp only [Bool.and_eq_true,Bool.not_eq_true'] at h;refine List.nodup_cons.mpr ⟨fun m=>?_,Qh8 h.2⟩;rw [List.contains_iff_mem.mpr m] at h;exact Bool.noConfusion h.1
theorem Y9:∀ (fp:List Nat) (os:List ZO) (h:ZH),(Qa1 fp os h).length=h.length
 | [],_,h=>by cases ‹List ZO› <;> rfl
 | i::is,[],h=>rfl
 | i::is,o::os,h=>by
   show (Qa1 is os (h.set i o)).length=h.length;rw [Y9 is os]; simp
theorem M8:∀ (fp:List Nat) (os:List ZO) (h:ZH) (i:Nat),i∉fp->(Qa1 fp os h)[i]? = h[i]?
 | [],os,h,i,_=>by cases os <;> rfl
 | j::is,[],h,i,_=>rfl
 | j::is,o::os,h,i,n=>by
   show (Qa1 is os (h.set j o))[i]? = h[i]?;rw [M8 is os _ i fun m=>n (Xq9 _ m)];exact List.getElem?_set_ne fun e=>n (by rw [e]; exact Xr1)
theorem Qg2:∀ (fp:List Nat) (os:List ZO) (h:ZH) (k i:Nat) (o:ZO),fp.Nodup->fp[k]? = some i->os[k]? = some o->i<h.length->(Qa1 fp os h)[i]? = some o
 | [],_,_,k,i,_,_,e,_,_=>by simp at e
 | j::is,[],h,k,i,o,_,_,e,_=>by simp at e
 | j::is,o'::os,h,0,i,o,nd,e1,e2,hl=>by
   simp at e1 e2;subst e1; subst e2;show (Qa1 is os (h.set j o'))[j]? = some o';rw [M8 is os _ j (List.nodup_cons.mp nd).1];exact Xr3 hl
 | j::is,o'::os,h,k+1,i,o,nd,e1,e2,hl=>by
   show (Qa1 is os (h.set j o'))[i]? = some o;exact Qg2 is os _ k i o (List.nodup_cons.mp nd).2 (by simpa using e1) (by simpa using e2) (by simpa using hl)
section
variable {g:G} {F:Fr} {W:WX} {ρ:List Addr} {zσ:ZS} {zh:ZH} {σ:L2.St} {H:Hp} {fp:List Nat}
theorem Qh9 (o:ZO):(QM9 fp o).live=o.live:=by cases o <;> rfl
theorem Qg3 {n:Nat} (o:ZO):(unO fp n o).live=o.live:=by cases o <;> rfl
def I9 (fp:List Nat) (ρ:List Addr):List Addr:=fp.map fun i=>ρ.getD i 0
theorem Qg4 {k i:Nat} (h:fp[k]? = some i) {a:Addr} (ha:ρ[i]? = some a):(I9 fp ρ)[k]? = some a:=by
 unfold I9;rw [Xq7,h];simp [List.getD_eq_getElem?_getD,ha]
theorem W9 (hlt:∀ i∈fp,i<ρ.length) {k:Nat} {a:Addr} (h:(I9 fp ρ)[k]? = some a):∃ i,fp[k]? = some i/\ρ[i]? = some a:=by
 unfold I9 at h;rw [Xq7] at h;cases e:fp[k]? with
 | none=>rw [e] at h; cases h
 | some i =>
   rw [e] at h;have hi:=hlt i (Xq8 e);simp [List.getD_eq_getElem?_getD,Xq6 hi] at h;exact ⟨i,rfl,by rw [Xq6 hi,h]⟩
theorem Qc2 {i:Nat} (h:i∈fp):fp[fp.idxOf i]? = some i:=by
 rw [Xq6 (List.idxOf_lt_length_of_mem h)];simp
theorem QV3 {U:Addr->Prop} {z:Z} {v:V} (r:RZ g U H ρ z v) (h:∀ i∈K3 z,i∈fp):RZ g U H (I9 fp ρ) (Qk3 fp z) v:=by
 cases z with
 | d x=>exact r
 | e x=>exact r
 | r i =>
   obtain ⟨a,e,k⟩:=r;exact ⟨a,Qg4 (Qc2 (h i (by simp [K3]))) e,k⟩
theorem Qq1 {U:Addr->Prop}:∀ {zs:List Z} {vs:List V},RZs g U H ρ zs vs->(∀ i∈zs.flatMap K3,i∈fp)->RZs g U H (I9 fp ρ) (zs.map (Qk3 fp)) vs
 | [],vs,r,_=>r
 | z :: zs,vs,⟨v,vs',e,r,q⟩,h=>⟨v,vs',e,QV3 r fun i hi=>h i (by simp [List.flatMap_cons,hi]),Qq1 q fun i hi=>h i (by
     rw [List.flatMap_cons]; exact List.mem_append_right _ hi)⟩
theorem ren_o {U:Addr->Prop} {a:Addr} {o:ZO} (r:RO g U H ρ a o) (h:∀ i∈M7 o,i∈fp):RO g U H (I9 fp ρ) a (QM9 fp o):=by
 cases o with
 | gone=>exact r
 | dl xs=>exact r
 | dic ks vs=>exact r
 | dit ks vs=>exact r
 | zl zs =>
   obtain ⟨vs,q,r⟩:=r;exact ⟨vs,q,Qq1 r h⟩
 | zdic ks zs =>
   obtain ⟨kvs,q,k,k',r⟩:=r;exact ⟨kvs,q,k,k',Qq1 r h⟩
 | ins c fs =>
   obtain ⟨hc,hf,dx,fvs,q,k,r⟩:=r;refine ⟨hc,fun p hp=>?_,dx,fvs,q,?_,?_⟩
   . obtain ⟨p0,h0,e0⟩:=List.mem_map.mp hp;rw [<- e0];exact hf p0 h0
   . rw [k,List.map_map,List.map_map,List.map_map]; rfl
   . have e:(fs.map fun p=>(p.1,Qk3 fp p.2)).map (·.2)=(fs.map (·.2)).map (Qk3 fp):=by rw [List.map_map,List.map_map]; rfl
     rw [e];refine Qq1 r fun i hi=>h i ?_;unfold M7;rw [List.flatMap_map] at hi;exact hi
theorem un_z {U:Addr->Prop} {ρc':List Addr} {n:Nat} (hn:ρ.length=n) (hlt:∀ i∈fp,i<n) (hp:I9 fp ρ<+:ρc') {z:Z} {v:V} (r:RZ g U H ρc' z v):RZ g U H (ρ++ρc'.drop fp.length) (unZ fp n z) v:=by
 cases z with
 | d x=>exact r
 | e x=>exact r
 | r j =>
   obtain ⟨a,e,k⟩:=r;refine ⟨a,?_,k⟩
   by_cases hj:j<fp.length
   . rw [if_pos hj];have hl:j<(I9 fp ρ).length:=by unfold I9; simpa using hj
     have e1:(I9 fp ρ)[j]? = some a:=by
       obtain ⟨t,rfl⟩:=hp;rw [Xr2 hl] at e;exact e
     obtain ⟨i,h1,h2⟩:=W9 (fun i hi=>by rw [hn]; exact hlt i hi) e1;have e2:fp.getD j 0=i:=by simp [List.getD_eq_getElem?_getD,h1]
     rw [e2,Xr2 (by rw [hn]; exact hlt i (Xq8 h1))];exact h2
   . rw [if_neg hj,List.getElem?_append_right (by rw [hn]; omega),List.getElem?_drop];rw [<- e]
     congr 1
     rw [hn];omega
theorem QN0 {U:Addr->Prop} {ρc':List Addr} {n:Nat} (hn:ρ.length=n) (hlt:∀ i∈fp,i<n) (hp:I9 fp ρ<+:ρc'):∀ {zs:List Z} {vs:List V},RZs g U H ρc' zs vs->RZs g U H (ρ++ρc'.drop fp.length) (zs.map (unZ fp n)) vs
 | [],vs,r=>r
 | z::zs,vs,⟨v,vs',e,r,q⟩=>⟨v,vs',e,un_z hn hlt hp r,QN0 hn hlt hp q⟩
theorem un_o {U:Addr->Prop} {ρc':List Addr} {n:Nat} (hn:ρ.length=n) (hlt:∀ i∈fp,i<n) (hp:I9 fp ρ<+:ρc') {a:Addr} {o:ZO} (r:RO g U H ρc' a o):RO g U H (ρ++ρc'.drop fp.length) a (unO fp n o):=by
 cases o with
 | gone=>exact r
 | dl xs=>exact r
 | dic ks vs=>exact r
 | dit ks vs=>exact r
 | zl zs =>
   obtain ⟨vs,q,r⟩:=r;exact ⟨vs,q,QN0 hn hlt hp r⟩
 | zdic ks zs =>
   obtain ⟨kvs,q,k,k',r⟩:=r;exact ⟨kvs,q,k,k',QN0 hn hlt hp r⟩
 | ins c fs =>
   obtain ⟨hc,hf,dx,fvs,q,k,r⟩:=r;refine ⟨hc,fun p hp=>?_,dx,fvs,q,?_,?_⟩
   . obtain ⟨p0,h0,e0⟩:=List.mem_map.mp hp;rw [<- e0];exact hf p0 h0
   . rw [k,List.map_map,List.map_map,List.map_map]; rfl
   . have e:(fs.map fun p=>(p.1,unZ fp n p.2)).map (·.2)=(fs.map (·.2)).map (unZ fp n):=by rw [List.map_map,List.map_map]; rfl
     rw [e];exact QN0 hn hlt hp r
def frC (F:Fr) (ρ:List Addr) (zh:ZH) (H:Hp) (fp:List Nat):Fr :=
 ⟨fun a=>F.P a \/ ∃ (i:Nat) (o:ZO),i∉fp/\ρ[i]? = some a/\zh[i]? = some o/\o.live=true,UO F ρ zh,H⟩
def Qc3 (fp:List Nat) (zh:ZH):ZH:=fp.map fun i=>QM9 fp (zh.getD i .gone)
theorem Qa2 {k i:Nat} (h:fp[k]? = some i):(Qc3 fp zh)[k]? = some (QM9 fp (zh.getD i .gone)):=by
 unfold Qc3;rw [Xq7,h]; rfl
theorem uoC (len:ρ.length=zh.length) (hlt:∀ i∈fp,i<zh.length):UO (frC F ρ zh H fp) (I9 fp ρ) (Qc3 fp zh)=UO F ρ zh:=by
 funext a
 refine propext ⟨?_,?_⟩
 . rintro ((h | ⟨i,o,_,h1,h2,h3⟩) | ⟨k,o,h1,h2,h3⟩)
   . exact .inl h
   . exact .inr ⟨i,o,h1,h2,h3⟩
   . obtain ⟨i,e1,e2⟩:=W9 (fun i hi=>by rw [len]; exact hlt i hi) h1;rw [Qa2 e1] at h2;cases h2;rw [Qh9] at h3;have hi:=hlt i (Xq8 e1);have e3:zh.getD i .gone=zh[i]:=by simp [List.getD_eq_getElem?_getD,Xq6 hi]
     rw [e3] at h3;exact .inr ⟨i,_,e2,Xq6 hi,h3⟩
 . rintro (h | ⟨i,o,h1,h2,h3⟩)
   . exact .inl (.inl h)
   . by_cases hi:i∈fp
     . refine .inr ⟨fp.idxOf i,_,Qg4 (Qc2 hi) h1,Qa2 (Qc2 hi),?_⟩;rw [Qh9];simp [List.getD_eq_getElem?_getD,h2,h3]
     . exact .inl (.inr ⟨i,o,hi,h1,h2,h3⟩)
theorem relC (r:RelH g F ρ zh H) (nd:fp.Nodup) (hlt:∀ i∈fp,i<zh.length) (hcl:∀ i∈fp,∀ j∈M7 (zh.getD i .gone),j∈fp) :
   RelH g (frC F ρ zh H fp) (I9 fp ρ) (Qc3 fp zh) H:=by
 have hU:=uoC (F:=F) (H:=H) r.len hlt;have hltR:∀ i∈fp,i<ρ.length:=fun i hi=>by rw [r.len]; exact hlt i hi
 refine ⟨by unfold I9 Qc3; simp,?_,fun k a o h1 h2=>?_,fun a h=>?_,fun a h q=>?_,fun a h=>?_,?_⟩
 . refine List.pairwise_iff_getElem.mpr fun i j hi hj hij e=>?_;have ha:(I9 fp ρ)[j]? = some (I9 fp ρ)[j]:=Xq6 hj;have hb:(I9 fp ρ)[i]? = some (I9 fp ρ)[j]:=by rw [Xq6 hi,e]
   obtain ⟨i1,e1,e2⟩:=W9 hltR hb;obtain ⟨i2,e3,e4⟩:=W9 hltR ha
   have:i1=i2:=by
     obtain ⟨l1,x1⟩:=Xr0.mp e2;obtain ⟨l2,x2⟩:=Xr0.mp e4;exact (List.getElem_inj r.nd).mp (x1.trans x2.symm)
   subst this;obtain ⟨l1,x1⟩:=Xr0.mp e1;obtain ⟨l2,x2⟩:=Xr0.mp e3;have:=(List.getElem_inj nd).mp (x1.trans x2.symm);omega
 . obtain ⟨i,e1,e2⟩:=W9 hltR h1;rw [Qa2 e1] at h2;cases h2;have hm:=Xq8 e1;have hi:=hlt i hm;have e3:zh[i]? = some (zh.getD i .gone):=by simp [List.getD_eq_getElem?_getD,Xq6 hi]
   rw [hU];exact ren_o (r.own i a _ e2 e3) (hcl i hm)
 . rcases h with h | ⟨i,o,_,h1,_,_⟩
   . obtain ⟨e,u,k⟩:=r.prot a h;exact ⟨rfl,u,e.trans k⟩
   . exact ⟨rfl,r.trk a (Xq8 h1)⟩
 . obtain ⟨k,hk⟩:=List.getElem?_of_mem h;obtain ⟨i,e1,e2⟩:=W9 hltR hk;rcases q with q | ⟨j,o,hj,h1,_,_⟩
   . exact r.notp a (Xq8 e2) q
   . have:i=j:=by
       obtain ⟨l1,x1⟩:=Xr0.mp e2;obtain ⟨l2,x2⟩:=Xr0.mp h1;exact (List.getElem_inj r.nd).mp (x1.trans x2.symm)
     subst this;exact hj (Xq8 e1)
 . obtain ⟨k,hk⟩:=List.getElem?_of_mem h;obtain ⟨i,e1,e2⟩:=W9 hltR hk;exact r.trk a (Xq8 e2)
 . rw [hU];exact Stb.refl
theorem uoB {ρc':List Addr} {zhc':ZH} (r:RelH g F ρ zh H) (nd:fp.Nodup) (hlt:∀ i∈fp,i<zh.length) (hp:I9 fp ρ<+:ρc') (hl:ρc'.length=zhc'.length) :
   UO F (ρ++ρc'.drop fp.length) (Q9 fp zh zhc')=UO (frC F ρ zh H fp) ρc' zhc':=by
 have hltR:∀ i∈fp,i<ρ.length:=fun i hi=>by rw [r.len]; exact hlt i hi
 have hm:fp.length<=ρc'.length:=by
   have:=hp.length_le;unfold I9 at this;simpa using this
 have len:=r.len
 funext a
 refine propext ⟨?_,?_⟩
 . rintro (h | ⟨i,o,h1,h2,h3⟩)
   . exact .inl (.inl h)
   . by_cases hi:i<ρ.length
     . rw [Xr2 hi] at h1;unfold Q9 at h2;rw [Xr2 (by rw [Y9]; omega)] at h2
       by_cases hf:i∈fp
       . have hk:=Qc2 hf
         have hk':fp.idxOf i<zhc'.length:=by
           have:=List.idxOf_lt_length_of_mem hf;omega
         have e1:(zhc'.map (unO fp zh.length))[fp.idxOf i]? = some (unO fp zh.length zhc'[fp.idxOf i]):=by
           rw [Xq7,Xq6 hk']; rfl
         rw [Qg2 fp _ zh _ i _ nd hk e1 (hlt i hf)] at h2;cases h2;rw [Qg3] at h3;refine .inr ⟨fp.idxOf i,_,M3 hp (Qg4 hk h1),Xq6 hk',h3⟩
       . rw [M8 _ _ _ _ hf] at h2;exact .inl (.inr ⟨i,o,hf,h1,h2,h3⟩)
     . rw [List.getElem?_append_right (by omega),List.getElem?_drop] at h1;unfold Q9 at h2;rw [List.getElem?_append_right (by rw [Y9]; omega),Y9,Xq7,List.getElem?_drop] at h2;rw [<- len] at h2;cases e:zhc'[fp.length+(i - ρ.length)]? with
       | none=>rw [e] at h2; cases h2
       | some o' =>
         rw [e] at h2;cases h2;rw [Qg3] at h3;exact .inr ⟨_,o',h1,e,h3⟩
 . rintro ((h | ⟨i,o,hf,h1,h2,h3⟩) | ⟨k,o,h1,h2,h3⟩)
   . exact .inl h
   . have hi:i<ρ.length:=(Xr0.mp h1).1;refine .inr ⟨i,o,by rw [Xr2 hi]; exact h1,?_,h3⟩;unfold Q9;rw [Xr2 (by rw [Y9]; omega),M8 _ _ _ _ hf];exact h2
   . by_cases hk:k<fp.length
     . have hl2:k<(I9 fp ρ).length:=by unfold I9; simpa using hk
       have e1:(I9 fp ρ)[k]? = some a:=by
         obtain ⟨t,rfl⟩:=hp;rw [Xr2 hl2] at h1;exact h1
       obtain ⟨i,e2,e3⟩:=W9 hltR e1;have hi:=hltR i (Xq8 e2);refine .inr ⟨i,unO fp zh.length o,by rw [Xr2 hi]; exact e3,?_,by rw [Qg3]; exact h3⟩;unfold Q9;rw [Xr2 (by rw [Y9]; omega)];exact Qg2 fp _ zh k i _ nd e2 (by rw [Xq7,h2]; rfl) (by omega)
     . refine .inr ⟨ρ.length+(k - fp.length),unO fp zh.length o,?_,?_,by rw [Qg3]; exact h3⟩
       . rw [List.getElem?_append_right (by omega),List.getElem?_drop];rw [<- h1]
         congr 1
         omega
       . unfold Q9;rw [List.getElem?_append_right (by rw [Y9]; omega),Y9,Xq7,List.getElem?_drop];have:fp.length+(ρ.length+(k - fp.length) - zh.length)=k:=by omega
         rw [this,h2]; rfl
theorem backH {ρc':List Addr} {zhc':ZH} {H':Hp} (r:RelH g F ρ zh H) (nd:fp.Nodup) (hlt:∀ i∈fp,i<zh.length)
   (e:Ext (frC F ρ zh H fp) (I9 fp ρ) (Qc3 fp zh) H ρc' zhc' H') (rc:RelH g (frC F ρ zh H fp) ρc' zhc' H') :
   RelH g F (ρ++ρc'.drop fp.length) (Q9 fp zh zhc') H'/\Ext F ρ zh H (ρ++ρc'.drop fp.length) (Q9 fp zh zhc') H':=by
 have len:=r.len;have hltR:∀ i∈fp,i<ρ.length:=fun i hi=>by rw [r.len]; exact hlt i hi
 have hm:fp.length<=ρc'.length:=by
   have:=e.pre.length_le;unfold I9 at this;simpa using this
 have hU:=uoB r nd hlt e.pre rc.len;have hU0:=uoC (F:=F) (H:=H) r.len hlt
 have s:Stb (UO F ρ zh) H (UO F (ρ++ρc'.drop fp.length) (Q9 fp zh zhc')) H':=by
   rw [hU,<- hU0];exact e.stb
 have sel_in:∀ a,a∈I9 fp ρ -> ∃ k,k<fp.length/\ρc'[k]? = some a:=fun a h=>by
   obtain ⟨k,hk⟩:=List.getElem?_of_mem h;refine ⟨k,?_,M3 e.pre hk⟩;have:=(Xr0.mp hk).1;unfold I9 at this;simpa using this
 have drop_new:∀ a,a∈ρc'.drop fp.length->H a=none:=fun a h=>by
   obtain ⟨k,hk⟩:=List.getElem?_of_mem h;rw [List.getElem?_drop] at hk;rcases e.fresh a (Xq8 hk) with q | q
   . obtain ⟨k2,h2,h3⟩:=sel_in a q;obtain ⟨l1,x1⟩:=Xr0.mp hk;obtain ⟨l2,x2⟩:=Xr0.mp h3;have:=(List.getElem_inj rc.nd).mp (x1.trans x2.symm);omega
   . exact q
 refine ⟨⟨?_,?_,fun i a o h1 h2=>?_,fun a h=>?_,fun a h q=>?_,fun a h=>?_,r.stb.trans s⟩,⟨List.prefix_append _ _,s,e.trk,fun a h=>?_⟩⟩
 . unfold Q9;rw [List.length_append,List.length_append,Y9,Xq5,List.length_drop,List.length_drop,len,rc.len]
 . rw [List.nodup_append];refine ⟨r.nd,rc.nd.sublist (List.drop_sublist _ _),fun a ha b hb eq=>?_⟩;subst eq;obtain ⟨o,k⟩:=r.trk a ha;rw [drop_new a hb] at k; cases k
 . rw [hU]
   by_cases hi:i<ρ.length
   . rw [Xr2 hi] at h1;unfold Q9 at h2;rw [Xr2 (by rw [Y9]; omega)] at h2
     by_cases hf:i∈fp
     . have hk:=Qc2 hf
       have hk':fp.idxOf i<zhc'.length:=by
         have:=List.idxOf_lt_length_of_mem hf;have:=rc.len;omega
       have e1:(zhc'.map (unO fp zh.length))[fp.idxOf i]? = some (unO fp zh.length zhc'[fp.idxOf i]):=by
         rw [Xq7,Xq6 hk']; rfl
       rw [Qg2 fp _ zh _ i _ nd hk e1 (hlt i hf)] at h2;cases h2;exact un_o len hlt e.pre (rc.own (fp.idxOf i) a _ (M3 e.pre (Qg4 hk h1)) (Xq6 hk'))
     . rw [M8 _ _ _ _ hf] at h2;cases hlv:o.live with
       | false =>
         cases o with
         | gone=>trivial
         | _=>cases hlv
       | true =>
         have hp:=rc.prot a (.inr ⟨i,o,hf,h1,h2,hlv⟩);have:=r.own i a o h1 h2;rw [<- hU];exact RO.mono s (List.prefix_append _ _) hp.1 this
   . rw [List.getElem?_append_right (by omega),List.getElem?_drop] at h1;unfold Q9 at h2;rw [List.getElem?_append_right (by rw [Y9]; omega),Y9,Xq7,List.getElem?_drop] at h2;rw [<- len] at h2;cases ee:zhc'[fp.length+(i - ρ.length)]? with
     | none=>rw [ee] at h2; cases h2
     | some o' =>
       rw [ee] at h2;cases h2;rw [len] at h1 ee ⊢;exact un_o len hlt e.pre (rc.own _ a o' h1 ee)
 . obtain ⟨q,u,k⟩:=r.prot a h;have hp:=rc.prot a (.inl h);exact ⟨hp.1.trans q,u,k⟩
 . rcases List.mem_append.mp h with h | h
   . exact r.notp a h q
   . exact rc.notp a (List.mem_of_mem_drop h) (.inl q)
 . rcases List.mem_append.mp h with h | h
   . obtain ⟨o,k⟩:=r.trk a h;exact e.trk a o k
   . exact rc.trk a (List.mem_of_mem_drop h)
 . rcases List.mem_append.mp h with h | h
   . exact .inl h
   . exact .inr (drop_new a h)
theorem B6 {M:Sem} {zs:List Z} {vs:List V} {Q:VK} (r:RelH g F ρ zh H) (rz:RZs g (UO F ρ zh) H ρ zs vs) (p:Post g F W ρ zσ zh σ H (J8 M zs zh) Q) :
   lowF g M vs H Q (fun c d H'=>W c d σ H'):=by
 unfold J8 at p;dsimp only at p
 split at p
 . rename_i hc;unfold T6 at hc;simp only [Bool.and_eq_true,List.all_eq_true,List.contains_iff_mem,decide_eq_true_eq] at hc;obtain ⟨⟨h1,h2⟩,h3⟩:=hc;have nd:=Qh8 h3;have hlt:∀ i∈P0 zh 40 (zs.flatMap K3) [],i<zh.length:=fun i hi=>(h2 i hi).1;have rc:=relC r nd hlt fun i hi=>(h2 i hi).2;have hU0:=uoC (F:=F) (H:=H) r.len hlt;refine ⟨frC F ρ zh H _,I9 _ ρ,zs.map (Qk3 (P0 zh 40 (zs.flatMap K3) [])),Qc3 _ zh,rc,?_,?_⟩
   . rw [hU0];exact Qq1 rz h1
   . cases hM:M (zs.map (Qk3 (P0 zh 40 (zs.flatMap K3) []))) (Qc3 (P0 zh 40 (zs.flatMap K3) []) zh) with
     | bad=>unfold Qc3 at hM; rw [hM] at p; exact p.elim
     | ok z h' =>
       unfold Qc3 at hM; rw [hM] at p;intro ρc' v H' e R q;obtain ⟨R',e'⟩:=backH r nd hlt e R;refine p _ v H' e' R' ?_;rw [uoB r nd hlt e.pre R.len];exact un_z r.len hlt e.pre q
     | exc x h' =>
       unfold Qc3 at hM; rw [hM] at p;intro ρc' cls dx H' e R q;obtain ⟨R',e'⟩:=backH r nd hlt e R;refine p _ cls dx H' e' R' ?_;rw [uoB r nd hlt e.pre R.len];exact q
 . exact p.elim
end
structure FnT (P:Program) (w:World) (K:UZ9) (mg:Str->Option Value) (base:Heap) (g:G) (k:Nat) (f:Addr) (fd:FuncData) (ps:List Str) (M:Sem):Prop where
 ok:FnOk P w K mg base (L2.CX P w) k f fd ps (lowF g M)
 kp:PySem.W.keepIn K (.ref f)=true
 bi:Binds K fd ps []
section
variable {g:G} {F:Fr} {X:Cx} {W:WX} {k:Nat} {f:Addr} {fd:FuncData} {ps:List Str} {M:Sem} {e o:Expr} {es:List Expr} {d:DA} {da:DE} {x:Str} {p pos:Pos}
def X7 (M:Sem) (d:DA):DE:=fun s h=>(d s h).bnd fun zs h1=>J8 M zs h1
theorem Qg5 (tk:Takes X W) (σ:L2.St):PassesAt (L2.CX X.prog X.w) X σ (fun c d H=>W c d σ H):=fun pins H s e s' I c=>tk e s' (XE.of_call I (fun cls d H' h=>h) c)
theorem J9 (T:FnT X.prog X.w X.K X.mg X.base g k f fd ps M) (hr:Room k X.A) (tk:Takes X W) (hg:Gl X x) (hm:X.mg x=some (.ref f)) (ha:ZA g F X W (e::es) d)
   (hdb:(x == ("__debug__" : Str))=false:=by decide) (he:starEach (e::es) X.env=(false,eval e X.env)::starEach es X.env:=by rfl) (hpl:(backTo pos (starEach es X.env)).any (·.1)=false:=by rfl) :
   ZE g F X W (.Call (.Name x p) (e::es) [] pos) (X7 M d):=by
 refine PE.imp (pe_callSD (E:=fun σ c d H=>W c d σ H) T.ok hr hg hm T.kp T.bi .nil (Qg5 tk) ha hdb he hpl) fun σ H Q ⟨ρ,zσ,zh,RH,RS,p⟩=>?_;refine ⟨ρ,zσ,zh,RH,RS,PostA.bndE p fun ρ1 zs zh1 vs H1 e1 R1 rz p1=>?_⟩;rw [List.append_nil];exact B6 R1 rz p1
def M9 (n m:Nat) (d:DS):Sem:=fun zs h=>if zs.length=n then
   match d (zs.map some++List.replicate (m - n) none) h with
   | .rt z h'=>.ok z h'
   | .nx _ h'=>.ok (.d .non) h'
   | .exc x _ h'=>.exc x h'
   | _=>.bad
 else .bad
theorem W3 {P:Program} {w:World} {K:UZ9} {mg:Str->Option Value} {base:Heap} {x qual:Str} {st:Stmt} {N:List Str} {ds:DS} {dvs:List V} {kws:List (Str × V)} (T:FunD K x qual (defArgs st) (defBody st) (defScope st) dvs kws f fd) (S:FnScope N ps (defScope st))
   (hbody:∀ (F:Fr) (cdv:Value) (A:Around) (outer:List Env) (s:Shared) (H:Hp) (E:XK),Room k (A.deeper (envOfC qual (defScope st) s.heap.objs.size f cdv)) ->
     ZSs g F (cxOf (L2.CX P w) P w K mg base N qual (defScope st) f cdv A outer s H E) (fun c d _ H=>E c d H) (defBody st) ds) :
   FnOk P w K mg base (L2.CX P w) (k+1) f fd ps (lowF g (M9 ps.length N.length ds)):=by
 refine T.ok S (fun vs H Q E ⟨F,ρ,zs,zh,_,rz,p⟩=>?_) fun cdv A outer s H vs Q E hr ⟨F,ρ,zs,zh,RH,rz,p⟩=>?_
 . unfold M9 at p
   split at p
   . rename_i h;rw [rz.length,h]
   . exact p.elim
 . refine ⟨_,hbody F cdv A outer s H E hr,?_⟩;unfold M9 at p
   split at p
   . rename_i hl;have hvl:vs.length=ps.length:=by rw [rz.length,hl]
     have hN:ps.length<=N.length:=by
       have:=congrArg List.length S.pre;rw [List.length_take] at this;omega
     refine ⟨ρ,zs.map some++List.replicate (N.length - ps.length) none,zh,RH,⟨?_,fun i z h=>?_⟩,?_⟩
     . unfold L2.start;simp only [List.length_append,Xq5,List.length_replicate];omega
     . by_cases hi:i<zs.length
       . rw [Xr2 (by simpa using hi),Xq7] at h;cases e:zs[i]? with
         | none=>rw [e] at h; cases h
         | some z' =>
           rw [e] at h;cases h;obtain ⟨v,h1,h2⟩:=RZs.get rz e;refine ⟨v,?_,h2⟩;unfold L2.start;rw [Xr2 (by rw [Xq5]; omega),Xq7,h1]; rfl
       . rw [List.getElem?_append_right (by simpa using hi),List.getElem?_replicate] at h
         split at h <;> cases h
     . cases hd:ds (zs.map some++List.replicate (N.length - ps.length) none) zh with
       | nx s' h' =>
         rw [hd] at p;exact fun ρ' σ' H' e R S'=>p ρ' .non H' e R (rz_non.mpr rfl)
       | rt z h' =>
         rw [hd] at p;exact p
       | exc x' s' h' =>
         rw [hd] at p;exact fun ρ' σ' cls dx H' e R S' q=>p ρ' cls dx H' e R q
       | bk s' h'=>rw [hd] at p; exact p.elim
       | ct s' h'=>rw [hd] at p; exact p.elim
       | bad=>rw [hd] at p; exact p.elim
   . exact p.elim
theorem W4 {P:Program} {w:World} {K:UZ9} {mg:Str->Option Value} {base:Heap} {N:List Str} {qual:Str} {sc:Scope} {cdv:Value} {A:Around} {outer:List Env} {s:Shared} {H:Hp} {E:XK} :
 Takes (cxOf (L2.CX P w) P w K mg base N qual sc f cdv A outer s H E) (fun c d _ H=>E c d H):=takes_of rfl rfl rfl rfl
end
structure ClsOk (g:G):Prop where
 cls:∀ c,g.has c=true->Cls g.K (g.cad c)
 noat:∀ c f,g.has c=true->f∈X0 c->NoAttr g.K (g.cad c) (fnm f)
section
variable {g:G} {F:Fr} {X:Cx} {W:WX} {a b c e o value:Expr} {es:List Expr} {da db dc:DE} {pos pos' apos:Pos}
theorem QE2 {U:Addr->Prop} {H:Hp} {f:Nat}:∀ {ks:List Nat} {ds:List D} {fvs:List (Str × V)} {x:D},fvs.map (·.1)=ks.map fnm->RDs g U H ds (fvs.map (·.2))->(ks.zip ds).lookup f=some x ->
   f∈ks /\ ∃ v,fvs.lookup (fnm f)=some v/\RD g U H x v
 | [],ds,fvs,x,_,_,h=>by simp at h
 | k::ks,[],fvs,x,_,_,h=>by simp at h
 | k::ks,d::ds,[],x,e,r,h=>by simp at e
 | k :: ks,d::ds,(n,v)::fvs,x,e,r,h=>by
   simp only [Xr4,List.cons.injEq] at e;obtain ⟨v',vs',e2,r1,r2⟩:=rds_cons.mp r;simp only [Xr4,List.cons.injEq] at e2;obtain ⟨ev,evs⟩:=e2;subst ev; subst evs;rw [List.zip_cons_cons,List.lookup_cons] at h
   by_cases hf:f=k
   . subst hf;simp only [beq_self_eq_true] at h;cases h;exact ⟨Xr1,v,by rw [List.lookup_cons,e.1]; simp,r1⟩
   . have hb:(f == k)=false:=by simpa using hf
     rw [hb] at h;obtain ⟨hm,u,h1,h2⟩:=QE2 e.2 r2 h;refine ⟨Xq9 _ hm,u,?_,h2⟩;rw [List.lookup_cons,e.1]
     have:(fnm f == fnm k)=false:=by
       rw [beq_eq_false_iff_ne];exact fun q=>hf (Qm6 q)
     rw [this];exact h1
theorem QR5 {U:Addr->Prop} {H:Hp} {ρ:List Addr} {f:Nat}:∀ {fs:List (Nat × Z)} {fvs:List (Str × V)} {x:Z},fvs.map (·.1)=(fs.map (·.1)).map fnm->RZs g U H ρ (fs.map (·.2)) (fvs.map (·.2))->fs.lookup f=some x ->
   ∃ v,fvs.lookup (fnm f)=some v/\RZ g U H ρ x v
 | [],fvs,x,_,_,h=>by simp at h
 | (k,d)::fs,[],x,e,r,h=>by simp at e
 | (k, d)::fs,(n,v)::fvs,x,e,⟨v',vs',e2,r1,r2⟩,h=>by
   simp only [Xr4,List.cons.injEq] at e;simp only [Xr4,List.cons.injEq] at e2;obtain ⟨ev,evs⟩:=e2;subst ev; subst evs;rw [List.lookup_cons] at h
   by_cases hf:f=k
   . subst hf;simp only [beq_self_eq_true] at h;cases h;exact ⟨v,by rw [List.lookup_cons,e.1]; simp,r1⟩
   . have hb:(f == k)=false:=by simpa using hf
     rw [hb] at h;obtain ⟨u,h1,h2⟩:=QR5 e.2 r2 h;refine ⟨u,?_,h2⟩;rw [List.lookup_cons,e.1]
     have:(fnm f == fnm k)=false:=by
       rw [beq_eq_false_iff_ne];exact fun q=>hf (Qm6 q)
     rw [this];exact h1
def QV4 (f:Nat) (z:Z) (h:ZH):Option Z :=
 match z with
 | .d (.obj c ds)=>(((X0 c).zip ds).lookup f).map .d
 | .r i=>match h[i]? with
   | some (.ins _ fs)=>fs.lookup f
   | _=>none
 | _=>none
theorem Ql9 {f:Nat} {x:Z}:∀ {fs:List (Nat × Z)},fs.lookup f=some x->(f,x)∈fs
 | [],h=>by simp at h
 | (k,d)::fs,h=>by
   rw [List.lookup_cons] at h
   by_cases hf:f=k
   . subst hf;simp only [beq_self_eq_true] at h;cases h;exact Xr1
   . have hb:(f == k)=false:=by simpa using hf
     rw [hb] at h;exact Xq9 _ (Ql9 h)
theorem QV5 {ρ:List Addr} {zh:ZH} {H:Hp} (r:RelH g F ρ zh H) {z:Z} {v:V} (rz:RZ g (UO F ρ zh) H ρ z v) {f:Nat} {x:Z} (h:QV4 f z zh=some x) :
   ∃ a c dx fvs u,v = .ref a/\H a=some (.ins (g.cad c) dx fvs)/\g.has c=true/\f∈X0 c/\fvs.lookup (fnm f)=some u/\RZ g (UO F ρ zh) H ρ x u:=by
 unfold QV4 at h
 split at h
 . rename_i c ds;obtain ⟨a,dx,fvs,e,_,hc,q,k,rr⟩:=rd_obj.mp rz;cases hl:((X0 c).zip ds).lookup f with
   | none=>rw [hl] at h; cases h
   | some d =>
     rw [hl] at h;cases h;obtain ⟨hm,u,h1,h2⟩:=QE2 k rr hl;exact ⟨a,c,dx,fvs,u,e,q,hc,hm,h1,h2⟩
 . rename_i i;obtain ⟨a,e,k⟩:=rz;cases hz:zh[i]? with
   | none=>rw [hz] at h; cases h
   | some oo =>
     rw [hz] at h;cases oo with
     | ins c fs =>
       obtain ⟨hc,hf,dx,fvs,q,k2,rr⟩:=r.own i a _ e hz;obtain ⟨u,h1,h2⟩:=QR5 k2 rr h;exact ⟨a,c,dx,fvs,u,k,q,hc,hf _ (Ql9 h),h1,h2⟩
     | _=>cases h
 . cases h
def Qq2 (f:Nat) (d:DE):DE:=fun s h=>(d s h).bnd fun z h1=>match QV4 f z h1 with
 | some x=>.ok x h1
 | none=>.bad
theorem T7 (f:Nat) {n:Str} (gk:ClsOk g) (hK:X.K=g.K) (he:ZE g F X W e da) (hn:n=fnm f:=by decide +kernel) (hb:attributeBase e n X.env (eval e X.env)=eval e X.env:=by rfl):ZE g F X W (.Attribute e n pos) (Qq2 f da):=by
 subst hn;refine PE.imp (pe_fld he hb) fun σ H Q ⟨ρ,zσ,zh,RH,RS,p⟩=>?_;refine ⟨ρ,zσ,zh,RH,RS,Post.bnd p fun ρ1 z zh1 v H1 e1 R1 rz p1=>?_⟩;cases k:QV4 f z zh1 with
 | none=>simp only [k] at p1; exact p1.elim
 | some x =>
   simp only [k] at p1;obtain ⟨a,c,dx,fvs,u,ev,q,hc,hm,hl,hr⟩:=QV5 R1 rz k;rw [hK];exact ⟨a,g.cad c,dx,fvs,u,ev,q,gk.cls c hc,gk.noat c f hc hm,hl,Post.done R1 p1 hr⟩
def Qq3 (f:Nat) (z:Z):List (Nat × Z)->List (Nat × Z)
 | []=>[(f,z)]
 | p::fs=>if p.1=f then (f,z)::fs else p::Qq3 f z fs
theorem Qq4 {f:Nat} {z:Z} {y:V}:∀ {fs:List (Nat × Z)} {fvs:List (Str × V)},fvs.map (·.1)=(fs.map (·.1)).map fnm->(putF (fnm f) y fvs).map (·.1)=((Qq3 f z fs).map (·.1)).map fnm
 | [],fvs,h=>by
   have:fvs=[]:=by simpa using h
   subst this; rfl
 | p::fs,[],h=>by simp at h
 | p::fs,q::fvs,h=>by
   simp only [Xr4,List.cons.injEq] at h;unfold putF Qq3
   by_cases e:p.1=f
   . rw [if_pos e,if_pos (by rw [h.1,e])];rw [Xr4,Xr4,Xr4,h.2,h.1,e]
   . rw [if_neg e,if_neg (by rw [h.1]; exact fun k=>e (Qm6 k))];rw [Xr4,Xr4,Xr4,h.1,Qq4 h.2]
theorem Qw6 {U:Addr->Prop} {H:Hp} {ρ:List Addr} {f:Nat} {z:Z} {y:V} (ry:RZ g U H ρ z y):∀ {fs:List (Nat × Z)} {fvs:List (Str × V)},fvs.map (·.1)=(fs.map (·.1)).map fnm->RZs g U H ρ (fs.map (·.2)) (fvs.map (·.2)) ->
   RZs g U H ρ ((Qq3 f z fs).map (·.2)) ((putF (fnm f) y fvs).map (·.2))
 | [],fvs,h,_=>by
   have:fvs=[]:=by simpa using h
   subst this;exact ⟨y,[],rfl,ry,rfl⟩
 | p::fs,[],h,_=>by simp at h
 | p::fs,q::fvs,h,⟨v,vs,e2,r1,r2⟩=>by
   simp only [Xr4,List.cons.injEq] at h e2;obtain ⟨ev,evs⟩:=e2;unfold putF Qq3
   by_cases e:p.1=f
   . rw [if_pos e,if_pos (by rw [h.1,e])];exact ⟨y,_,rfl,ry,by rw [evs]; exact r2⟩
   . rw [if_neg e,if_neg (by rw [h.1]; exact fun k=>e (Qm6 k))];exact ⟨q.2,_,rfl,by rw [ev]; exact r1,Qw6 ry h.2 (by rw [evs]; exact r2)⟩
theorem Qw7 {f:Nat} {z:Z}:∀ {fs:List (Nat × Z)} {p:Nat × Z},p∈Qq3 f z fs->p.1=f\/p∈fs
 | [],p,h=>by
   have:p=(f,z):=by simpa [Qq3] using h
   exact .inl (by rw [this])
 | q :: fs,p,h=>by
   unfold Qq3 at h
   split at h
   . rcases List.mem_cons.mp h with h | h
     . exact .inl (by rw [h])
     . exact .inr (Xq9 _ h)
   . rcases List.mem_cons.mp h with h | h
     . exact .inr (by rw [h]; exact Xr1)
     . rcases Qw7 h with h | h
       . exact .inl h
       . exact .inr (Xq9 _ h)
def Qq5 (f:Nat) (y x:Z) (s:ZS) (h:ZH):OutS:=match x with
 | .r i=>match h[i]? with
   | some (.ins c fs)=>if (X0 c).contains f && decide (fs.length<1000) then .nx s (h.set i (.ins c (Qq3 f y fs))) else .bad
   | _=>.bad
 | _=>.bad
def L7 (f:Nat) (dv d:DE):DS:=fun s h=>(dv s h).bndS s fun y h1=>(d s h1).bndS s fun x h2=>Qq5 f y x s h2
theorem QE3 {D:Ends} {ρ:List Addr} {zσ:ZS} {zh:ZH} {σ:L2.St} {H:Hp} (RH:RelH g F ρ zh H) (RS:RelS g (UO F ρ zh) H ρ zσ σ) {f:Nat} {y x:Z} {vy vx:V} (ry:RZ g (UO F ρ zh) H ρ y vy) (rx:RZ g (UO F ρ zh) H ρ x vx) (p:PostS g F W ρ zh H (Qq5 f y x zσ zh) D) :
   ∃ a c dx fvs,vx = .ref a/\H a=some (.ins (g.cad c) dx fvs)/\g.has c=true/\f∈X0 c/\fvs.length<1000/\D.nx σ (upd H a (.ins (g.cad c) dx (putF (fnm f) vy fvs))):=by
 unfold Qq5 at p
 split at p
 . rename_i i;obtain ⟨a,e,k⟩:=rx;cases hz:zh[i]? with
   | none=>rw [hz] at p; exact p.elim
   | some oo =>
     rw [hz] at p;cases oo with
     | ins c fs =>
       simp only at p
       split at p
       . rename_i hcond;simp only [Bool.and_eq_true,List.contains_iff_mem,decide_eq_true_eq] at hcond;obtain ⟨hc,hf,dx,fvs,q,k2,rr⟩:=RH.own i a _ e hz
         have hlen:fvs.length=fs.length:=by
           have:=congrArg List.length k2;simpa using this
         refine ⟨a,c,dx,fvs,k,q,hc,hcond.1,by omega,?_⟩
         have s:Stb (UO F ρ zh) H (UO F ρ (zh.set i (.ins c (Qq3 f y fs)))) (upd H a (.ins (g.cad c) dx (putF (fnm f) vy fvs))):=fun b u eb nub =>
           ⟨by rw [upd_ne (fun z:b=a=>nub (by rw [z]; exact .inr ⟨i,_,e,hz,rfl⟩))]; exact eb,fun z=>nub (Ql8 z ⟨_,hz,rfl⟩)⟩
         obtain ⟨R',e'⟩:=RH.set (o:=.ins (g.cad c) dx (putF (fnm f) vy fvs)) (zo':=.ins c (Qq3 f y fs)) e hz rfl
           ⟨hc,fun pp hp=>(Qw7 hp).elim (fun z=>by rw [z]; exact hcond.1) (hf pp),dx,_,upd_same,Qq4 k2,Qw6 (RZ.mono s (Xr5 _) ry) k2 (RZs.mono s (Xr5 _) rr)⟩
         exact p ρ σ _ e' R' (RS.mono e')
       . exact p.elim
     | _=>exact p.elim
 . exact p.elim
theorem B3 (f:Nat) {n:Str} (gk:ClsOk g) (hK:X.K=g.K) (ho:ZE g F X W o da) (hv:ZE g F X W value db) (hn:n=fnm f:=by decide +kernel) (hs:swapsWith value (some (.Attribute o n pos')) pos.line X.env=pure false:=by rfl) :
   ZS1 g F X W (.Assign [.Attribute o n pos'] value pos) (L7 f db da):=by
 subst hn;refine PS.imp (ps_fld ho hv hs) fun D σ H ⟨ρ,zσ,zh,RH,RS,p⟩=>?_;refine ⟨ρ,zσ,zh,RH,RS,Post.bndS RS p fun ρ1 y zh1 vy H1 e1 R1 ry p1=>?_⟩;refine ⟨ρ1,zσ,zh1,R1,RS.mono e1,Post.bndS (RS.mono e1) p1 fun ρ2 x zh2 vx H2 e2 R2 rx p2=>?_⟩;obtain ⟨a,c,dx,fvs,ev,q,hc,hm,hl,nx⟩:=QE3 R2 ((RS.mono e1).mono e2) (RZ.mono e2.stb e2.pre ry) rx p2;rw [hK];exact ⟨a,g.cad c,dx,fvs,ev,q,gk.cls c hc,gk.noat c f hc hm,hl,nx⟩
theorem RelH.trim {ρ:List Addr} {zh:ZH} {H:Hp} (r:RelH g F ρ zh H) (n:Nat) (hg:∀ i o,n<=i->zh[i]? = some o->o = .gone) (hr:∀ i o,i<n->zh[i]? = some o -> ∀ j∈M7 o,j<n) :
   RelH g F (ρ.take n) (zh.take n) H/\UO F (ρ.take n) (zh.take n)=UO F ρ zh:=by
 have hU:UO F (ρ.take n) (zh.take n)=UO F ρ zh:=by
   funext a
   refine propext ⟨?_,?_⟩
   . rintro (h | ⟨i,o,h1,h2,h3⟩)
     . exact .inl h
     . rw [List.getElem?_take] at h1 h2
       split at h1
       . rename_i hi;rw [if_pos hi] at h2;exact .inr ⟨i,o,h1,h2,h3⟩
       . cases h1
   . rintro (h | ⟨i,o,h1,h2,h3⟩)
     . exact .inl h
     . by_cases hi:i<n
       . exact .inr ⟨i,o,by rw [List.getElem?_take,if_pos hi]; exact h1,by rw [List.getElem?_take,if_pos hi]; exact h2,h3⟩
       . rw [hg i o (by omega) h2] at h3; cases h3
 have rz:∀ {z:Z} {v:V},(∀ j∈K3 z,j<n)->RZ g (UO F ρ zh) H ρ z v->RZ g (UO F ρ zh) H (ρ.take n) z v:=fun {z v} hj h=>by
   cases z with
   | d x=>exact h
   | e x=>exact h
   | r j =>
     obtain ⟨a,e,k⟩:=h;exact ⟨a,by rw [List.getElem?_take,if_pos (hj j (by simp [K3]))]; exact e,k⟩
 have rzs:∀ {zs:List Z} {vs:List V},(∀ j∈zs.flatMap K3,j<n)->RZs g (UO F ρ zh) H ρ zs vs->RZs g (UO F ρ zh) H (ρ.take n) zs vs:=fun {zs}=>by
   induction zs with
   | nil=>intro vs _ h; exact h
   | cons z zs ih =>
     rintro vs hj ⟨v,vs',e,h1,h2⟩;exact ⟨v,vs',e,rz (fun j k=>hj j (by rw [List.flatMap_cons]; exact List.mem_append_left _ k)) h1,ih (fun j k=>hj j (by rw [List.flatMap_cons]; exact List.mem_append_right _ k)) h2⟩
 refine ⟨⟨by rw [List.length_take,List.length_take,r.len],r.nd.sublist (List.take_sublist _ _),fun i a o h1 h2=>?_,r.prot,fun a h=>r.notp a (List.mem_of_mem_take h),fun a h=>r.trk a (List.mem_of_mem_take h),by rw [hU]; exact r.stb⟩,hU⟩;rw [List.getElem?_take] at h1 h2
 split at h1
 . rename_i hi;rw [if_pos hi] at h2;have q:=r.own i a o h1 h2;have hj:=hr i o hi h2;rw [hU];cases o with
   | gone=>trivial
   | dl xs=>exact q
   | dic ks vs=>exact q
   | dit ks vs=>exact q
   | zl zs =>
     obtain ⟨vs,e,k⟩:=q;exact ⟨vs,e,rzs hj k⟩
   | zdic ks zs =>
     obtain ⟨kvs,e,k1,k2,k⟩:=q;exact ⟨kvs,e,k1,k2,rzs hj k⟩
   | ins c fs =>
     obtain ⟨hc,hf,dx,fvs,e,k1,k2⟩:=q;refine ⟨hc,hf,dx,fvs,e,k1,rzs (fun j hm=>hj j ?_) k2⟩;unfold M7;rw [List.flatMap_map] at hm;exact hm
 . cases h1
def frzZ (z:Z) (h:ZH):Option (D × ZH):=match z with
 | .d x=>some (x,h)
 | .r j=>match h[j]? with
   | some (.dl xs)=>some (.lst xs,h.set j .gone)
   | _=>none
 | .e _=>none
def Qu2:List Z->ZH->Option (List D × ZH)
 | [],h=>some ([],h)
 | z :: zs,h=>match frzZ z h with
   | some (x,h1)=>match Qu2 zs h1 with
     | some (xs,h2)=>some (x::xs,h2)
     | none=>none
   | none=>none
def QE4 (n:Nat) (h:ZH):Bool:=(h.drop n).all fun o=>!o.live
def Qq6 (n:Nat) (h:ZH):Bool:=QE4 n h && (h.take n).all fun o=>(M7 o).all fun j=>decide (j<n)
theorem QV6 {ρ:List Addr} {zh zh1:ZH} {H:Hp} (r:RelH g F ρ zh H) {z:Z} {v:V} (rz:RZ g (UO F ρ zh) H ρ z v) {x:D} (h:frzZ z zh=some (x,zh1)) :
   RelH g F ρ zh1 H/\Ext F ρ zh H ρ zh1 H/\RD g (UO F ρ zh1) H x v:=by
 unfold frzZ at h
 split at h
 . cases h;exact ⟨r,Ext.refl,rz⟩
 . rename_i j;obtain ⟨a,e,k⟩:=rz;cases hz:zh[j]? with
   | none=>rw [hz] at h; cases h
   | some oo =>
     rw [hz] at h;cases oo with
     | dl xs =>
       cases h;obtain ⟨us,q,rr⟩:=r.own j a _ e hz;obtain ⟨R1,e1⟩:=r.freeze hz rfl;exact ⟨R1,e1,rd_lst.mpr ⟨a,us,k,r.gone_notU e,q,RDs.mono e1.stb _ _ rr⟩⟩
     | _=>cases h
 . cases h
theorem Qw8 {ρ:List Addr} {H:Hp}:∀ {zs:List Z} {zh zh1:ZH} {vs:List V} {xs:List D},RelH g F ρ zh H->RZs g (UO F ρ zh) H ρ zs vs->Qu2 zs zh=some (xs,zh1) ->
   RelH g F ρ zh1 H/\Ext F ρ zh H ρ zh1 H/\RDs g (UO F ρ zh1) H xs vs
 | [],zh,zh1,vs,xs,r,rz,h=>by
   unfold Qu2 at h;cases h;exact ⟨r,Ext.refl,rds_nil.mpr rz⟩
 | z :: zs,zh,zh1,vs,xs,r,⟨v,vs',ev,r1,r2⟩,h=>by
   unfold Qu2 at h;cases k:frzZ z zh with
   | none=>rw [k] at h; cases h
   | some p =>
     obtain ⟨x,h1⟩:=p;rw [k] at h;simp only at h;obtain ⟨R1,e1,q1⟩:=QV6 r r1 k;cases k2:Qu2 zs h1 with
     | none=>rw [k2] at h; cases h
     | some p2 =>
       obtain ⟨ys,h2⟩:=p2;rw [k2] at h;cases h;obtain ⟨R2,e2,q2⟩:=Qw8 R1 (RZs.mono e1.stb (Xr5 _) r2) k2;exact ⟨R2,e1.trans e2,rds_cons.mpr ⟨v,vs',ev,RD.mono e2.stb _ _ q1,q2⟩⟩
def Qz5 (own:Bool) (c n:Nat) (h:ZH):Out Z:=if own then .ok (.r n) h else
 match h[n]? with
 | some (.ins c' fs)=>if (c' == c) && (fs.map (·.1) == X0 c) then
     match Qu2 (fs.map (·.2)) (h.set n .gone) with
     | some (ds,h1)=>if Qq6 n h1=true then .ok (.d (.obj c ds)) (h1.take n) else .bad
     | none=>.bad
   else .bad
 | _=>.bad
def Qn2 (own:Bool) (c:Nat) (M:Sem) (d:DA):DE:=fun s h=>(d s h).bnd fun zs h1=>if (X0 c).isEmpty then .bad else
 match J8 M (.r h1.length::zs) (h1++[.ins c []]) with
 | .ok (.d .non) h2=>Qz5 own c h1.length h2
 | .exc x h2=>if Qq6 h1.length (h2.set h1.length .gone)=true then .exc x ((h2.set h1.length .gone).take h1.length) else .exc x h2
 | _=>.bad
structure MkT (P:Program) (w:World) (K:UZ9) (mg:Str->Option Value) (base:Heap) (g:G) (k:Nat) (C f:Addr) (fd:FuncData) (ps:List Str) (M:Sem):Prop where
 mks:Mk K C f
 ok:FnOk P w K mg base (L2.CX P w) k f fd ps (lowF g M)
 bi:Binds K fd ps []
def QE5 (C:Addr) (sp:Sp) (dvs:List V) (E:L2.St->XK) (t:TA):TE:=fun σ H Q=>t σ H fun vs H1=>∀ x dx,H1 x=none->H1 dx=none->dx≠x ->
 sp (.ref x::(vs++dvs)) (upd (upd H1 dx (.own x)) x (.ins C dx [])) (fun v H2=>v = .non/\Q (.ref x) H2) (E σ)
section
variable {CX:CXT} {k:Nat} {f C:Addr} {fd:FuncData} {ps:List Str} {sp:Sp} {dvs:List V} {ds:List Value} {E:L2.St->XK} {x:Str} {p:Pos} {t:TA}
theorem Qz6 {pins:List (Addr × Obj)} {σ:L2.St} {H:Hp} {s:Shared} {Q:VK} {us:List Value} {vs:List V} (M:Mk X.K C f) (F:FnOk X.prog X.w X.K X.mg X.base CX k f fd ps sp) (hr:Room (k+1) X.A) (hb:Binds X.K fd ps ds) (hd:Vals dvs ds)
   (hx:PassesAt CX X σ (E σ)) (I:Inv X pins σ H s) (r:Vals vs us)
   (h:∀ x dx,H x=none->H dx=none->dx≠x->sp (.ref x::(vs++dvs)) (upd (upd H dx (.own x)) x (.ins C dx [])) (fun v H2=>v = .non/\Q (.ref x) H2) (E σ)) :
   wpAny (model X.prog X.w) X.A (call (.ref C) us) (EP X pins σ Q) X.xe s:=by
 have hq:=h (s.heap.objs.size+1) s.heap.objs.size (I.hok.fresh (Nat.le_succ _)) (I.hok.fresh (Nat.le_refl _)) (Nat.ne_of_lt (Nat.lt_succ_self _));have I2:=Inv.made (C:=C) I;have r2:Vals (V.ref (s.heap.objs.size+1)::(vs++dvs)) (Value.ref (s.heap.objs.size+1)::(us++ds)):=.cons rfl (r.append hd)
 have hl:(Value.ref (s.heap.objs.size+1)::us++ds).length=ps.length:=by
   have e:=r2.length;rw [F.len _ _ _ _ hq] at e;exact e.symm
 refine wpAny_call (make_map (f:=f) I.kIn M.makes M.init (beq_iff_eq.mp M.fn) (codeAny_mono (F.run _ X.stack _ _ ⟨Value.ref (s.heap.objs.size+1)::us,[]⟩ (Value.ref (s.heap.objs.size+1)::(us++ds)) _ _ (E σ) (hr.make C us [])
   (I2.env0.make C us []) (hb _ (Value.ref (s.heap.objs.size+1)::us) I2.kIn hl) r2 hq) fun r s' hq'=>?_))
 cases r with
 | error e=>exact hx pins _ _ e s' I2 hq'
 | ok fl =>
   cases fl with
   | ret u =>
     obtain ⟨v,H',I3,rv,ev,q3⟩:=I2.after hq';subst ev;exact ⟨rv,⟨V.ref (s.heap.objs.size+1),H',I3,rfl,q3⟩⟩
   | next=>exact False.elim hq'
   | brk=>exact False.elim hq'
   | cont=>exact False.elim hq'
theorem QE6 (M:Mk X.K C f) (F:FnOk X.prog X.w X.K X.mg X.base CX k f fd ps sp) (hr:Room (k+1) X.A) (hg:Gl X x) (hm:X.mg x=some (.ref C)) (hb:Binds X.K fd ps ds) (hd:Vals dvs ds) (hx:∀ σ,PassesAt CX X σ (E σ))
   (ha:PA X (e::es) t) (hdb:(x == ("__debug__" : Str))=false:=by decide) (he:starEach (e::es) X.env=(false,eval e X.env)::starEach es X.env:=by rfl) (hpl:(backTo pos (starEach es X.env)).any (·.1)=false:=by rfl) :
   PE X (.Call (.Name x p) (e::es) [] pos) (QE5 C sp dvs E t):=by
 refine ⟨fun pins s σ H Q I h=>?_⟩;refine wpAny_Call_Name_kw (ld_glob I hg hm ?_ hdb);refine PySem.W.callWith_K (h₀:=X.base) I.ok.mod.kin M.kp (thn (ha.run pos pins s σ H _ I h) fun us s1 ⟨vs,H1,I1,r,q⟩=>⟨I1.kIn,?_⟩) he hpl;exact Qz6 M F hr hb hd (hx σ) I1 r q
end
theorem Qa3 {ρ:List Addr} {zh:ZH} {H:Hp} (r:RelH g F ρ zh H) (n:Nat) (h:Qq6 n zh=true):RelH g F (ρ.take n) (zh.take n) H/\UO F (ρ.take n) (zh.take n)=UO F ρ zh:=by
 unfold Qq6 QE4 at h;simp only [Bool.and_eq_true,List.all_eq_true,decide_eq_true_eq] at h;refine r.trim n (fun i o hi ho=>?_) fun i o hi ho j hj=>?_
 . have:o∈zh.drop n:=Xq8 (i:=i - n) (by rw [List.getElem?_drop]; rw [<- ho]; congr 1; omega);have:=h.1 o this;cases o with
   | gone=>rfl
   | _=>cases this
 . have:o∈zh.take n:=Xq8 (i:=i) (by rw [List.getElem?_take,if_pos hi]; exact ho);exact h.2 o this j hj
theorem Ext.trim {ρ ρ':List Addr} {zh zh':ZH} {H H':Hp} (e:Ext F ρ zh H ρ' zh' H') (hU:UO F (ρ'.take ρ.length) (zh'.take ρ.length)=UO F ρ' zh'):Ext F ρ zh H (ρ'.take ρ.length) (zh'.take ρ.length) H':=by
 have ep:ρ'.take ρ.length=ρ:=by
   obtain ⟨t,rfl⟩:=e.pre;simp
 refine ⟨by rw [ep]; exact Xr5 _,by rw [hU]; exact e.stb,e.trk,fun a h=>.inl (by rw [ep] at h; exact h)⟩
theorem QN1 {d : DA} (own:Bool) (c:Nat) {C:Addr} {M:Sem} (hcad:g.cad c=C) (hhas:g.has c=true) {σ:L2.St} {H:Hp} {Q:VK} (hlow:low g F W (Qn2 own c M d) σ H Q):QE5 C (lowF g M) [] (fun σ c d H=>W c d σ H) (lowA g F W d) σ H Q:=by
 subst hcad;obtain ⟨ρ,zσ,zh,RH,RS,p⟩:=hlow;refine ⟨ρ,zσ,zh,RH,RS,PostA.bndE p fun ρ1 zs zh1 vs H1 e1 R1 rz p1=>?_⟩;intro xx dx nx ndx hne;rw [List.append_nil]
 split at p1
 . exact p1.elim
 rename_i hflds;have s1:upd H1 dx (.own xx) xx=none:=by rw [upd_ne (Ne.symm hne)]; exact nx
 obtain ⟨R2,e2,_⟩:=R1.newF (o:=.own xx) ndx;obtain ⟨R3,e3⟩:=R2.newO (o:=.ins (g.cad c) dx []) (zo:=.ins c []) s1 ⟨hhas,(fun p hp=>by cases hp),dx,[],upd_same,rfl,rfl⟩;have e23:=e2.trans e3;refine B6 (zσ:=zσ) (σ:=σ) (W:=W) R3 (zs:=.r zh1.length::zs) ⟨.ref xx,vs,rfl,⟨xx,by rw [<- R1.len]; simp,rfl⟩,RZs.mono e23.stb e23.pre rz⟩ ?_;cases hc:J8 M (.r zh1.length::zs) (zh1++[.ins c []]) with
 | bad=>rw [hc] at p1; exact p1.elim
 | exc x' h2 =>
   rw [hc] at p1;simp only at p1;intro ρ' cls dx' H' e4 R4 q
   split at p1
   . rename_i ht;cases hz:h2[zh1.length]? with
     | none =>
       have hset:h2.set zh1.length .gone=h2:=by
         apply List.ext_getElem?;intro j
         by_cases hj:zh1.length=j
         . subst hj;rw [hz];have:¬ zh1.length<h2.length:=fun l=>by rw [Xq6 l] at hz; cases hz
           rw [List.getElem?_eq_none (by simp; omega)]
         . rw [List.getElem?_set_ne hj]
       rw [hset] at ht p1;obtain ⟨R5,hU⟩:=Qa3 R4 _ ht;have e5:=(e23.trans e4).trim (by rw [R1.len]; exact hU);rw [R1.len] at e5;exact p1 _ cls dx' H' e5 R5 (by rw [hU]; exact q)
     | some oo =>
       cases hlv:oo.live with
       | false =>
         have:oo = .gone:=by cases oo with
           | gone=>rfl
           | _=>cases hlv
         subst this
         have hset:h2.set zh1.length .gone=h2:=by
           apply List.ext_getElem?;intro j
           by_cases hj:zh1.length=j
           . subst hj;rw [hz,Xr3 (Xr0.mp hz).1]
           . rw [List.getElem?_set_ne hj]
         rw [hset] at ht p1;obtain ⟨R5,hU⟩:=Qa3 R4 _ ht;have e5:=(e23.trans e4).trim (by rw [R1.len]; exact hU);rw [R1.len] at e5;exact p1 _ cls dx' H' e5 R5 (by rw [hU]; exact q)
       | true =>
         obtain ⟨R5,e5⟩:=R4.freeze hz hlv;obtain ⟨R6,hU⟩:=Qa3 R5 _ ht;have e6:=((e23.trans e4).trans e5).trim (by rw [R1.len]; exact hU);rw [R1.len] at e6;refine p1 _ cls dx' H' e6 R6 ?_;rw [hU];obtain ⟨q1,qX,q2⟩:=q;refine ⟨q1,qX,q2.imp id fun ⟨h0,d,fvs,h1,h2,h3,h4,h5⟩=>⟨h0,d,fvs,h1,?_,h3,h4,RDs.mono e5.stb _ _ h5⟩⟩;exact (e5.stb d _ h3 h2).2
   . exact p1 ρ' cls dx' H' (e23.trans e4) R4 q
 | ok z h2 =>
   rw [hc] at p1;cases z with
   | r i=>exact p1.elim
   | e a=>exact p1.elim
   | d z =>
     cases z with
     | non =>
       simp only at p1;intro ρ' v H' e4 R4 q;refine ⟨rz_non.mp q,?_⟩;have e04:=e23.trans e4;have hx:ρ'[zh1.length]? = some xx:=M3 e4.pre (by rw [<- R1.len]; simp);unfold Qz5 at p1;cases own with
       | true =>
         rw [if_pos rfl] at p1;exact p1 ρ' (.ref xx) H' e04 R4 ⟨xx,hx,rfl⟩
       | false =>
         rw [if_neg Bool.false_ne_true] at p1;cases hz:h2[zh1.length]? with
         | none=>rw [hz] at p1; exact p1.elim
         | some oo =>
           rw [hz] at p1;cases oo with
           | ins c' fs =>
             simp only at p1
             split at p1
             . rename_i hcond;simp only [Bool.and_eq_true,beq_iff_eq] at hcond;obtain ⟨hcc,hks⟩:=hcond;subst hcc;obtain ⟨hc1,hf1,dx1,fvs,hq,hk1,hr1⟩:=R4.own _ _ _ hx hz;obtain ⟨R5,e5⟩:=R4.freeze hz rfl;cases hfz:Qu2 (fs.map (·.2)) (h2.set zh1.length .gone) with
               | none=>simp only [hfz] at p1; exact p1.elim
               | some pr =>
                 obtain ⟨ds,h3⟩:=pr;simp only [hfz] at p1
                 split at p1
                 . rename_i ht;obtain ⟨R6,e6,q6⟩:=Qw8 R5 (RZs.mono e5.stb (Xr5 _) hr1) hfz;obtain ⟨R7,hU⟩:=Qa3 R6 _ ht;have e7:=(((e04).trans e5).trans e6).trim (by rw [R1.len]; exact hU);rw [R1.len] at e7;refine p1 _ (.ref xx) H' e7 R7 (rd_obj.mpr ⟨xx,dx1,fvs,rfl,?_,hc1,hq,by rw [hk1,hks],?_⟩)
                   . rw [hU];exact (e6.stb xx _ hq (R4.gone_notU hx)).2
                   . rw [hU];exact q6
                 . exact p1.elim
             . exact p1.elim
           | _=>exact p1.elim
     | _=>exact p1.elim
theorem QE7 {k:Nat} {f C:Addr} {fd:FuncData} {ps:List Str} {M:Sem} {x:Str} {p:Pos} {d:DA} (own:Bool) (c:Nat) (hK:X.K=g.K) (hcad:g.cad c=C) (hhas:g.has c=true) (T:MkT X.prog X.w X.K X.mg X.base g k C f fd ps M) (hr:Room (k+1) X.A) (tk:Takes X W) (hg:Gl X x) (hm:X.mg x=some (.ref C)) (ha:ZA g F X W (e::es) d)
   (hdb:(x == ("__debug__" : Str))=false:=by decide) (he:starEach (e::es) X.env=(false,eval e X.env)::starEach es X.env:=by rfl) (hpl:(backTo pos (starEach es X.env)).any (·.1)=false:=by rfl) :
   ZE g F X W (.Call (.Name x p) (e::es) [] pos) (Qn2 own c M d):=by
 exact PE.imp (QE6 (E:=fun σ c d H=>W c d σ H) T.mks T.ok hr hg hm T.bi .nil (Qg5 tk) ha hdb he hpl) fun σ H Q h=>QN1 own c hcad hhas h
end
section
variable {g:G} {F:Fr} {X:Cx} {W:WX} {a b c e o value:Expr} {es:List Expr} {da db dc:DE} {pos pos' apos:Pos}
def Qa4 (z:Z) (h:ZH):Option Nat:=match z with
 | .d (.obj c _)=>some c
 | .r i=>match h[i]? with
   | some (.ins c _)=>some c
   | _=>none
 | _=>none
def MethE (P:Program) (w:World) (K:UZ9) (mg:Str->Option Value) (base:Heap) (g:G) (k:Nat) (m:Str) (mt:Nat->Option Sem):Prop :=
 ∀ c M,g.has c=true->mt c=some M -> ∃ f fd ps,Meth g.K (g.cad c) m f/\FnT P w K mg base g k f fd ps M /\ ∀ x∈X0 c,fnm x≠m
theorem Qc4 {ρ:List Addr} {zh:ZH} {H:Hp} (r:RelH g F ρ zh H) {z:Z} {v:V} (rz:RZ g (UO F ρ zh) H ρ z v) {c:Nat} (h:Qa4 z zh=some c) :
   ∃ a dx fvs,v = .ref a/\H a=some (.ins (g.cad c) dx fvs)/\g.has c=true /\ ∀ n,(∀ x∈X0 c,fnm x≠n)->fvs.lookup n=none:=by
 have nl:∀ (fvs:List (Str × V)) (n:Str),(∀ p∈fvs.map (·.1),p≠n)->fvs.lookup n=none:=by
   intro fvs n hn
   induction fvs with
   | nil=>rfl
   | cons p r ih =>
     rw [List.lookup_cons]
     have:(n == p.1)=false:=by
       rw [beq_eq_false_iff_ne];exact fun q=>hn p.1 (by simp) q.symm
     rw [this];exact ih fun q hq=>hn q (Xq9 _ hq)
 unfold Qa4 at h
 split at h
 . cases h;obtain ⟨a,dx,fvs,e,_,hc,q,k,_⟩:=rd_obj.mp rz;refine ⟨a,dx,fvs,e,q,hc,fun n hn=>nl fvs n fun p hp=>?_⟩;rw [k] at hp;obtain ⟨x,hx,ex⟩:=List.mem_map.mp hp;rw [<- ex];exact hn x hx
 . rename_i i;obtain ⟨a,e,k⟩:=rz;cases hz:zh[i]? with
   | none=>rw [hz] at h; cases h
   | some oo =>
     rw [hz] at h;cases oo with
     | ins c' fs =>
       cases h;obtain ⟨hc,hf,dx,fvs,q,k2,_⟩:=r.own i a _ e hz;refine ⟨a,dx,fvs,k,q,hc,fun n hn=>nl fvs n fun p hp=>?_⟩;rw [k2] at hp;obtain ⟨x,hx,ex⟩:=List.mem_map.mp hp;obtain ⟨y,hy,ey⟩:=List.mem_map.mp hx;rw [<- ex,<- ey];exact hn _ (hf y hy)
     | _=>cases h
 . cases h
def S7 (mt:Nat->Option Sem) (d:DE) (da:DA):DE:=fun s h=>(d s h).bnd fun z h1=>match Qa4 z h1 with
 | some c=>match mt c with
   | some M=>(da s h1).bnd fun zs h2=>J8 M (z::zs) h2
   | none=>.bad
 | none=>.bad
theorem QE8 {k:Nat} {f:Addr} {fd:FuncData} {ps:List Str} {M:Sem} (T:FnT X.prog X.w X.K X.mg X.base g k f fd ps M) (hr:Room k X.A) (tk:Takes X W) {pins:List (Addr × Obj)} {s:Shared} {σ:L2.St} {H:Hp} {Q:VK} {us:List Value} {vs:List V}
   (I:Inv X pins σ H s) (r:Vals vs us) (h:lowF g M vs H Q (fun c d H'=>W c d σ H')):wpAny (model X.prog X.w) X.A (call (.ref f) us) (EP X pins σ Q) X.xe s:=by
 have:=run_fnSD (E:=fun σ c d H=>W c d σ H) (dvs:=[]) T.ok hr T.bi .nil (Qg5 tk σ) I r (by rw [List.append_nil]; exact h);exact this
theorem Qn3 {k:Nat} {m:Str} {mt:Nat->Option Sem} {pl:PySem.Sem Bool} {d:DA} (gk:ClsOk g) (hK:X.K=g.K) (T:MethE X.prog X.w X.K X.mg X.base g k m mt) (hr:Room k X.A) (tk:Takes X W) (he:ZE g F X W o da) (ha:ZA g F X W (e::es) d)
   (hst:starEach (e::es) X.env=(false,eval e X.env)::starEach es X.env:=by rfl) (hpl:(backTo pos (starEach es X.env)).any (·.1)=false:=by rfl)
   (ht:eval (.Call (.Attribute o m apos) (e::es) [] pos) X.env=(do
     let ov <- eval o X.env
     standAt apos.atName
     let (f,first) <- holding [ov] (getMethod ov m pl)
     callWith pos f first (backTo pos (starEach (e::es) X.env)) (backToKw pos (keywordEach [] X.env))):=by rfl) :
   ZE g F X W (.Call (.Attribute o m apos) (e::es) [] pos) (S7 mt da d):=by
 refine ⟨fun pins s σ H Q I ⟨ρ,zσ,zh,RH,RS,p⟩=>?_⟩
 refine PySem.W.methodCall_KW (pl:=pl) (thn (he.run pins s σ H (fun v H1=>∃ ρ1 z zh1,Ext F ρ zh H ρ1 zh1 H1/\RelH g F ρ1 zh1 H1/\RZ g (UO F ρ1 zh1) H1 ρ1 z v/\Post g F W ρ1 zσ zh1 σ H1 (match Qa4 z zh1 with
   | some c=>match mt c with
     | some M=>(d zσ zh1).bnd fun zs h2=>J8 M (z::zs) h2
     | none=>.bad
   | none=>.bad) Q) I ⟨ρ,zσ,zh,RH,RS,Post.bnd p fun ρ1 z zh1 v H1 e1 R1 rz p1=>⟨ρ1,z,zh1,e1,R1,rz,p1⟩⟩) fun u s1 ⟨x,H1,I1,rx,ρ1,z,zh1,e1,R1,rz,p1⟩=>?_) ht
 cases kc:Qa4 z zh1 with
 | none=>simp only [kc] at p1; exact p1.elim
 | some c =>
   simp only [kc] at p1;cases km:mt c with
   | none=>simp only [km] at p1; exact p1.elim
   | some M =>
     simp only [km] at p1;obtain ⟨a,dx,fvs,ex,q,hc,hl⟩:=Qc4 R1 rz kc;obtain ⟨f,fd,ps,hm,FT,hn⟩:=T c M hc km;subst ex;obtain rfl:u=Value.ref a:=rx;refine getmeth_ok I1 q (by rw [hK]; exact gk.cls c hc) (by rw [hK]; exact hm) (hl m hn) ?_
     refine PySem.W.callWith_K (first:=[.ref a]) (h₀:=X.base) I.ok.mod.kin FT.kp (thn (ha.run pos pins s1 σ H1 (fun vs H2=>∃ ρ2 zs zh2,Ext F ρ1 zh1 H1 ρ2 zh2 H2/\RelH g F ρ2 zh2 H2/\RZs g (UO F ρ2 zh2) H2 ρ2 zs vs/\Post g F W ρ2 zσ zh2 σ H2 (J8 M (z::zs) zh2) Q) I1
       ⟨ρ1,zσ,zh1,R1,RS.mono e1,PostA.bndE p1 fun ρ2 zs zh2 vs H2 e2 R2 rzs p2=>⟨ρ2,zs,zh2,e2,R2,rzs,p2⟩⟩) fun us s2 ⟨vs,H2,I2,r,ρ2,zs,zh2,e2,R2,rzs,p2⟩=>⟨I2.kIn,?_⟩) hst hpl
     exact QE8 FT hr tk (us:=.ref a::us) (vs:=.ref a::vs) I2 (.cons rfl r) (B6 (zs:=z::zs) R2 ⟨_,_,rfl,RZ.mono e2.stb e2.pre rz,rzs⟩ p2)
theorem Qw9 {k:Nat} {m:Str} {mt:Nat->Option Sem} {pl:PySem.Sem Bool} (gk:ClsOk g) (hK:X.K=g.K) (T:MethE X.prog X.w X.K X.mg X.base g k m mt) (hr:Room k X.A) (tk:Takes X W) (he:ZE g F X W o da)
   (ht:eval (.Call (.Attribute o m apos) [] [] pos) X.env=(do
     let ov <- eval o X.env
     standAt apos.atName
     let (f,first) <- holding [ov] (getMethod ov m pl)
     callWith pos f first (backTo pos (starEach [] X.env)) (backToKw pos (keywordEach [] X.env))):=by rfl) :
   ZE g F X W (.Call (.Attribute o m apos) [] [] pos) (S7 mt da dNil):=by
 refine ⟨fun pins s σ H Q I ⟨ρ,zσ,zh,RH,RS,p⟩=>?_⟩
 refine PySem.W.methodCall_KW (pl:=pl) (thn (he.run pins s σ H (fun v H1=>∃ ρ1 z zh1,Ext F ρ zh H ρ1 zh1 H1/\RelH g F ρ1 zh1 H1/\RZ g (UO F ρ1 zh1) H1 ρ1 z v/\Post g F W ρ1 zσ zh1 σ H1 (match Qa4 z zh1 with
   | some c=>match mt c with
     | some M=>J8 M [z] zh1
     | none=>.bad
   | none=>.bad) Q) I ⟨ρ,zσ,zh,RH,RS,Post.bnd p fun ρ1 z zh1 v H1 e1 R1 rz p1=>⟨ρ1,z,zh1,e1,R1,rz,p1⟩⟩) fun u s1 ⟨x,H1,I1,rx,ρ1,z,zh1,e1,R1,rz,p1⟩=>?_) ht
 cases kc:Qa4 z zh1 with
 | none=>simp only [kc] at p1; exact p1.elim
 | some c =>
   simp only [kc] at p1;cases km:mt c with
   | none=>simp only [km] at p1; exact p1.elim
   | some M =>
     simp only [km] at p1;obtain ⟨a,dx,fvs,ex,q,hc,hl⟩:=Qc4 R1 rz kc;obtain ⟨f,fd,ps,hm,FT,hn⟩:=T c M hc km;subst ex;obtain rfl:u=Value.ref a:=rx;refine getmeth_ok I1 q (by rw [hK]; exact gk.cls c hc) (by rw [hK]; exact hm) (hl m hn) ?_;exact PySem.W.callWith_K0 (first:=[.ref a]) I1.kIn FT.kp (QE8 FT hr tk (us:=[.ref a]) (vs:=[.ref a]) I1 (.cons rfl .nil) (B6 (zs:=[z]) R1 ⟨_,_,rfl,rz,rfl⟩ p1))
end
def frD (F:Fr) (U:Addr->Prop) (D:Addr) (H:Hp):Fr:=⟨fun a=>F.P a\/a=D,fun a=>U a\/a=D,H⟩
section
variable {g:G} {F:Fr} {ρ ρ' ρ0:List Addr} {zh zh' zh0:ZH} {H H' H0 H1:Hp} {U:Addr->Prop} {D:Addr}
theorem uo_frD {a:Addr}:UO (frD F U D H) ρ zh a↔UO F ρ zh a\/a=D:=by
 constructor
 . rintro ((h | h) | h)
   . exact .inl (.inl h)
   . exact .inr h
   . exact .inl (.inr h)
 . rintro ((h | h) | h)
   . exact .inl (.inl h)
   . exact .inr h
   . exact .inl (.inr h)
structure LcI (g:G) (F:Fr) (D:Addr) (ρ0:List Addr) (zh0:ZH) (H0:Hp) (ρ:List Addr) (zh:ZH) (H:Hp) (xs:List Z):Prop where
 d0:H0 D=none
 rel:∃ U,RelH g (frD F U D H) ρ zh H
 pre:ρ0<+:ρ
 stb:Stb (UO F ρ0 zh0) H0 (fun a=>UO F ρ zh a\/a=D) H
 trk:∀ a o,H0 a=some o -> ∃ o',H a=some o'
 fresh:∀ a∈ρ,a∈ρ0\/H0 a=none
 prot:∀ a,F.P a->H a=H0 a
 lst:∃ vs,H D=some (.lst vs)/\RZs g (fun a=>UO F ρ zh a\/a=D) H ρ xs vs
theorem K4:UO (frD F U D H) ρ zh=fun a=>UO F ρ zh a\/a=D:=funext fun _=>propext uo_frD
theorem LcI.start (r:RelH g F ρ zh H) (n:H D=none):LcI g F D ρ zh H ρ zh (upd H D (.lst [])) []:=by
 have nD:∀ {a o},H a=some o->a≠D:=fun e=>ne_of_none e n;have s:Stb (UO F ρ zh) H (fun a=>UO F ρ zh a\/a=D) (upd H D (.lst [])):=fun a o e nu=>⟨by rw [upd_ne (nD e)]; exact e,fun z=>z.elim nu (nD e)⟩
 have hP:∀ {a},F.P a->a≠D:=fun {a} h=>by
   obtain ⟨e,o,k⟩:=r.prot a h;exact nD (e.trans k)
 have hR:∀ {a},a∈ρ->a≠D:=fun {a} h=>by
   obtain ⟨o,e⟩:=r.trk a h;exact nD e
 refine ⟨n,⟨UO F ρ zh,r.len,r.nd,fun i a o h1 h2=>?_,fun a h=>⟨rfl,?_⟩,fun a h q=>?_,fun a h=>?_,?_⟩,Xr5 _,s,fun a o e=>⟨o,by rw [upd_ne (nD e)]; exact e⟩,fun _ h=>.inl h,fun a h=>upd_ne (hP h),[],upd_same,rfl⟩
 . rw [K4];exact RO.mono s (Xr5 _) (upd_ne (hR (Xq8 h1))) (r.own i a o h1 h2)
 . show ∃ o,upd H D (.lst []) a=some o;rcases h with h | h
   . obtain ⟨e,o,k⟩:=r.prot a h;exact ⟨o,by rw [upd_ne (hP h)]; exact e.trans k⟩
   . exact ⟨_,by rw [h]; exact upd_same⟩
 . rcases q with q | q
   . exact r.notp a h q
   . exact hR h q
 . obtain ⟨o,e⟩:=r.trk a h;exact ⟨o,by rw [upd_ne (nD e)]; exact e⟩
 . rw [K4];exact Stb.refl
theorem LcI.out (r0:RelH g F ρ0 zh0 H0) {xs:List Z} (I:LcI g F D ρ0 zh0 H0 ρ zh H xs):RelH g F ρ zh H/\Ext F ρ0 zh0 H0 ρ zh H /\ ¬ UO F ρ zh D:=by
 obtain ⟨U,R⟩:=I.rel;have s:Stb (fun a=>UO F ρ zh a\/a=D) H (UO F ρ zh) H:=fun a o e nu=>⟨e,fun z=>nu (.inl z)⟩;have s2:Stb (UO F ρ0 zh0) H0 (UO F ρ zh) H:=I.stb.trans s
 have hP:∀ {a},F.P a->H a=F.H0 a /\ ∃ o,F.H0 a=some o:=fun {a} h=>by
   obtain ⟨e,o,k⟩:=r0.prot a h;exact ⟨(I.prot a h).trans e,o,k⟩
 have nD:¬ UO F ρ zh D:=by
   rintro (h | ⟨i,o,h1,_,_⟩)
   . obtain ⟨e,o,k⟩:=r0.prot D h;rw [I.d0,k] at e; cases e
   . exact R.notp D (Xq8 h1) (.inr rfl)
 refine ⟨⟨R.len,R.nd,fun i a o h1 h2=>?_,fun a h=>hP h,fun a h q=>R.notp a h (.inl q),R.trk,r0.stb.trans s2⟩,⟨I.pre,s2,I.trk,I.fresh⟩,nD⟩;have:=R.own i a o h1 h2;rw [K4] at this;exact RO.mono s (Xr5 _) rfl this
theorem LcI.ext {xs:List Z} (I:LcI g F D ρ0 zh0 H0 ρ zh H xs) (e:Ext (frD F U D H1) ρ zh H ρ' zh' H') (R:RelH g (frD F U D H1) ρ' zh' H') (hH:H1=H):LcI g F D ρ0 zh0 H0 ρ' zh' H' xs:=by
 subst hH;have s:=e.stb;rw [K4,K4] at s;have hD:H' D=H1 D:=(R.prot D (.inr rfl)).1;obtain ⟨vs,h1,h2⟩:=I.lst;refine ⟨I.d0,⟨fun a=>UO F ρ' zh' a\/a=D,R.len,R.nd,fun i a o k1 k2=>?_,fun a h=>⟨rfl,?_⟩,R.notp,R.trk,?_⟩,I.pre.trans e.pre,I.stb.trans s,fun a o k=>?_,fun a h=>?_,fun a h=>?_,vs,hD.trans h1,RZs.mono s e.pre h2⟩
 . have:=R.own i a o k1 k2;rw [K4] at this ⊢;exact this
 . obtain ⟨e1,o,k⟩:=R.prot a h;exact ⟨o,e1.trans k⟩
 . rw [K4];exact fun a o k n=>⟨k,fun z=>n (.inl z)⟩
 . obtain ⟨o1,k1⟩:=I.trk a o k;exact e.trk a o1 k1
 . rcases e.fresh a h with h | h
   . exact I.fresh a h
   . refine .inr ?_;cases k:H0 a with
     | none=>rfl
     | some o =>
       obtain ⟨o1,k1⟩:=I.trk a o k;rw [h] at k1; cases k1
 . exact (R.prot a (.inl h)).1.trans (I.prot a h)
theorem LcI.push {xs:List Z} {z:Z} {v:V} {vs:List V} (I:LcI g F D ρ0 zh0 H0 ρ zh H xs) (h1:H D=some (.lst vs)) (r:RZ g (fun a=>UO F ρ zh a\/a=D) H ρ z v):LcI g F D ρ0 zh0 H0 ρ zh (upd H D (.lst (vs++[v]))) (xs++[z]):=by
 obtain ⟨U,R⟩:=I.rel;obtain ⟨us,h2,h3⟩:=I.lst;rw [h1] at h2;cases h2;have s:Stb (fun a=>UO F ρ zh a\/a=D) H (fun a=>UO F ρ zh a\/a=D) (upd H D (.lst (vs++[v]))):=fun a o e nu=>⟨by rw [upd_ne fun z=>nu (.inr z)]; exact e,nu⟩;have hR:∀ {a},a∈ρ->a≠D:=fun {a} h q=>R.notp a h (.inr q);refine ⟨I.d0,⟨fun a=>UO F ρ zh a\/a=D,R.len,R.nd,fun i a o k1 k2=>?_,fun a h=>⟨rfl,?_⟩,R.notp,fun a h=>?_,?_⟩,I.pre,I.stb.trans s,fun a o k=>?_,I.fresh,fun a h=>?_,_,upd_same,(RZs.mono s (Xr5 _) h3).append ⟨v,[],rfl,RZ.mono s (Xr5 _) r,rfl⟩⟩
 . have:=R.own i a o k1 k2;rw [K4] at this ⊢;exact RO.mono s (Xr5 _) (upd_ne (hR (Xq8 k1))) this
 . show ∃ o,upd H D (.lst (vs++[v])) a=some o
   by_cases e:a=D
   . exact ⟨_,by rw [e]; exact upd_same⟩
   . rw [upd_ne e];obtain ⟨e1,o,k⟩:=R.prot a h;exact ⟨o,e1.trans k⟩
 . rw [upd_ne (hR h)];exact R.trk a h
 . rw [K4];exact fun a o k n=>⟨k,fun z=>n (.inl z)⟩
 . obtain ⟨o1,k1⟩:=I.trk a o k
   by_cases e:a=D
   . exact ⟨_,by rw [e]; exact upd_same⟩
   . exact ⟨o1,by rw [upd_ne e]; exact k1⟩
 . have:a≠D:=fun e=>by
     have:=I.prot a h;rw [e,h1,I.d0] at this; cases this
   rw [upd_ne this];exact I.prot a h
end
open Classical in
def K8 (gd:ZH->Prop) (t:Z->ZS) (tt:DT) (de:DE):List Z->ZH->List Z->Out (List Z)
 | [],h,acc=>.ok acc h
 | z :: zs,h,acc=>match tt (t z) h with
   | .ok true h1=>match de (t z) h1 with
     | .ok y h2=>if gd h2/\acc.length<1000000 then K8 gd t tt de zs h2 (acc++[y]) else .bad
     | _=>.bad
   | .ok false h1=>if gd h1 then K8 gd t tt de zs h1 acc else .bad
   | _=>.bad
inductive Keep where
 | frz | own | any
def K1 (k:Keep) (zs:List Z) (h:ZH):Out Z:=match k with
 | .frz=>match G0 zs with
   | some xs=>.ok (.d (.lst xs)) h
   | none=>.bad
 | .own=>match G0 zs with
   | some xs=>.ok (.r h.length) (h++[.dl xs])
   | none=>.bad
 | .any=>.ok (.r h.length) (h++[.zl zs])
def dLc (k:Keep) (di:DI) (i:Nat) (tt:DT) (de:DE):DE:=fun s h=>(di s h).bnd fun it h1 =>
 (K8 it.guard (fun z=>(s.set i none).set i (some z)) tt de it.items h1 []).bnd fun zs h2=>K1 k zs h2
def tYesZ:DT:=fun _ h=>.ok true h
abbrev W0:WX:=fun _ _ _ _=>False
abbrev Xb8 (X:Cx) (scope:Scope) (s:Shared) (H:Hp) (C:Addr) (cl:List (Str × Addr)) (fp:List Addr):Cx:=X.blk s H scope (compEnvC scope cl C X.env) fp
section
variable {g:G} {F:Fr} {X:Cx} {W:WX}
def ZTs (g:G) (F:Fr) (X:Cx) (W:WX) (ifs:List Expr) (d:DT):Prop:=PTs X ifs (lowT g F W d)
theorem Qn4:ZTs g F X W [] tYesZ:=⟨fun pins s σ H Q I h=>(pts_nil (X:=X)).run pins s σ H Q I (let ⟨ρ,zσ,zh,RH,RS,p⟩:=h; PostT.done RH p)⟩
theorem QR6 {e:Expr} {d:DE} (h:∀ F:Fr,ZE g F X W e d):PE X e (fun σ H Q=>∃ F,low g F W d σ H Q):=⟨fun pins s σ H Q I ⟨F,q⟩=>(h F).run pins s σ H Q I q⟩
theorem QE9 {ifs:List Expr} {d:DT} (h:∀ F:Fr,ZTs g F X W ifs d):PTs X ifs (fun σ H Q=>∃ F,lowT g F W d σ H Q):=⟨fun pins s σ H Q I ⟨F,q⟩=>(h F).run pins s σ H Q I q⟩
theorem QF0 {k:Keep} {D:Addr} {ρ0 ρ:List Addr} {zh0 zh:ZH} {H0 H:Hp} {zσ:ZS} {σ:L2.St} {zs:List Z} {Q:VK} (r0:RelH g F ρ0 zh0 H0) (I:LcI g F D ρ0 zh0 H0 ρ zh H zs) (p:Post g F W ρ0 zσ zh0 σ H0 (K1 k zs zh) Q):Q (.ref D) H:=by
 obtain ⟨R,e,nD⟩:=I.out r0;obtain ⟨vs,hD,rs⟩:=I.lst;have s:Stb (fun a=>UO F ρ zh a\/a=D) H (UO F ρ zh) H:=fun a o e nu=>⟨e,fun z=>nu (.inl z)⟩
 have owned : ∀ zo:ZO,RO g (fun a=>UO F ρ zh a\/a=D) H ρ D zo->(k':Post g F W ρ0 zσ zh0 σ H0 (.ok (.r zh.length) (zh++[zo])) Q)->Q (.ref D) H:=by
   intro zo ro pp;obtain ⟨U,R'⟩:=I.rel;have nm:D∉ρ:=fun h=>R'.notp D h (.inr rfl);have s3:Stb (fun a=>UO F ρ zh a\/a=D) H (UO F (ρ++[D]) (zh++[zo])) H:=fun a o e nu=>⟨e,fun z=>nu (QC7 R.len z)⟩
   have RN : RelH g F (ρ++[D]) (zh++[zo]) H:=by
     refine ⟨by simp [R.len],?_,fun i a o' h1 h2=>?_,R.prot,fun a h z=>?_,fun a h=>?_,?_⟩
     . rw [List.nodup_append];refine ⟨R.nd,by simp,fun a ha b hb e=>nm ?_⟩;have:b=D:=by simpa using hb
       rw [<- this,<- e]; exact ha
     . by_cases hi:i<ρ.length
       . rw [Xr2 hi] at h1;rw [Xr2 (by have:=R.len; omega)] at h2;have:=R'.own i a o' h1 h2;rw [K4] at this;exact RO.mono s3 (List.prefix_append _ _) rfl this
       . have e:i=ρ.length:=by
           obtain ⟨hl,_⟩:=Xr0.mp h1;simp at hl;omega
         subst e;simp at h1;subst h1;rw [R.len] at h2;simp at h2;subst h2;exact RO.mono s3 (List.prefix_append _ _) rfl ro
     . rcases List.mem_append.mp h with h | h
       . exact R.notp a h z
       . have e:a=D:=by simpa using h
         rw [e] at z;exact nD (.inl z)
     . rcases List.mem_append.mp h with h | h
       . exact R.trk a h
       . have e:a=D:=by simpa using h
         exact ⟨_,by rw [e]; exact hD⟩
     . exact r0.stb.trans (I.stb.trans s3)
   refine pp (ρ++[D]) (.ref D) H ⟨I.pre.trans (List.prefix_append _ _),I.stb.trans s3,I.trk,fun a h=>?_⟩ RN ⟨D,by rw [<- R.len]; simp,rfl⟩;rcases List.mem_append.mp h with h | h
   . exact I.fresh a h
   . have e:a=D:=by simpa using h
     exact .inr (by rw [e]; exact I.d0)
 cases k with
 | frz =>
   unfold K1 at p;cases hx:G0 zs with
   | none=>simp only [hx] at p; exact p.elim
   | some xs =>
     simp only [hx] at p;exact p ρ (.ref D) H e R (rd_lst.mpr ⟨D,vs,rfl,nD,hD,RDs.mono s _ _ (M5 hx rs)⟩)
 | own =>
   unfold K1 at p;cases hx:G0 zs with
   | none=>simp only [hx] at p; exact p.elim
   | some xs =>
     simp only [hx] at p;exact owned (.dl xs) ⟨vs,hD,M5 hx rs⟩ p
 | any=>exact owned (.zl zs) ⟨vs,hD,rs⟩ p
theorem Qx0 {ρ0:List Addr} {zh0:ZH} {H0:Hp} {D:Addr} {zσ:ZS} {σ:L2.St} {J:It} {it:ZIt} {tt:DT} {de:DE} {i:Nat} {Q:Hp->Prop} {k:Keep} {P:Out Z->Prop} (hP:P .bad->False)
   (r0:RelH g F ρ0 zh0 H0) (S0:RelS g (UO F ρ0 zh0) H0 ρ0 zσ σ) (n:H0 D=none) (g0:it.guard zh0) (ok:ItOk g F ρ0 zh0 H0 J it)
   (p:P ((K8 it.guard (fun z=>(zσ.set i none).set i (some z)) tt de it.items zh0 []).bnd fun zs h2=>K1 k zs h2))
   (fin:∀ ρ zh H zs,LcI g F D ρ0 zh0 H0 ρ zh H zs->P (K1 k zs zh)->Q H) :
   ∃ Wf : Nat->Nat->Hp->Prop,(∃ m,Wf 0 m (upd H0 D (.lst []))) /\ ∀ j m H,Wf j m H ->
     (J.stop j H/\Q H)\/(J.go j H /\ ∃ Nx:Hp->Prop,(∀ H',Nx H' -> ∃ m',m'<m/\Wf (j+1) m' H') /\ ∀ x H',J.yld j H x H'->gName i x (wipe σ [i]) H' fun σ2 H2=>wipe σ2 [i]=wipe σ [i]/\(fun σ H Q=>∃ F,lowT g F W0 tt σ H Q) σ2 H2 fun b H3 =>
       if b=true then (fun σ H Q=>∃ F,low g F W0 de σ H Q) σ2 H3 fun y H4=>∃ acc,H4 D=some (.lst acc)/\acc.length<sizeLine/\Nx (upd H4 D (.lst (acc++[y]))) else Nx H3):=by
 have sD:∀ {ρ zh H xs},LcI g F D ρ0 zh0 H0 ρ zh H xs->RelS g (fun a=>UO F ρ zh a\/a=D) H ρ zσ σ:=fun {ρ zh H xs} I =>
   ⟨S0.1,fun j z h=>let ⟨v,h1,h2⟩:=S0.2 j z h; ⟨v,h1,RZ.mono I.stb I.pre h2⟩⟩
 refine ⟨fun j m H=>m=it.items.length - j/\j<=it.items.length /\ ∃ ρ zh xs,LcI g F D ρ0 zh0 H0 ρ zh H xs/\it.guard zh/\P ((K8 it.guard (fun z=>(zσ.set i none).set i (some z)) tt de (it.items.drop j) zh xs).bnd fun zs h2=>K1 k zs h2),
   ⟨_,rfl,Nat.zero_le _,ρ0,zh0,[],LcI.start r0 n,g0,p⟩,?_⟩
 rintro j m H ⟨rfl,hj,ρ,zh,xs,I,gd,p⟩;obtain ⟨U,R⟩:=I.rel;have s1:Stb (UO F ρ0 zh0) H0 (UO (frD F U D H) ρ zh) H:=by rw [K4]; exact I.stb
 obtain ⟨hgo,hstop⟩:=ok (frD F U D H) ρ zh H I.pre s1 R gd
 by_cases hlt:j<it.items.length
 . refine .inr ?_;have hd:it.items.drop j=it.items[j]::it.items.drop (j+1):=List.drop_eq_getElem_cons hlt;rw [hd] at p;obtain ⟨go,yl⟩:=hgo j _ (Xq6 hlt)
   refine ⟨go,fun H'=>j+1<=it.items.length /\ ∃ ρ zh xs,LcI g F D ρ0 zh0 H0 ρ zh H' xs/\it.guard zh/\P ((K8 it.guard (fun z=>(zσ.set i none).set i (some z)) tt de (it.items.drop (j+1)) zh xs).bnd fun zs h2=>K1 k zs h2),
     fun H' q=>⟨it.items.length - (j+1),by omega,rfl,q⟩,fun x H2 y=>?_⟩
   obtain ⟨e2,R2,rz⟩:=yl x H2 y;have I2:=I.ext e2 R2 rfl;obtain ⟨U2,R2'⟩:=I2.rel
   have S2:RelS g (UO (frD F U2 D H2) ρ zh) H2 ρ ((zσ.set i none).set i (some it.items[j])) ((wipe σ [i]).set i (some x)):=by
     rw [K4] at rz ⊢;have S:=sD I2;refine ⟨by simp [wipe,S.1],fun q z hq=>?_⟩
     by_cases hqi:i=q
     . subst hqi
       have hl:i<zσ.length:=by
         have:=(Xr0.mp hq).1;simpa using this
       rw [Xr3 (by simpa using hl)] at hq;cases hq;exact ⟨x,by rw [Xr3 (by show i<(σ.set i none).length; simp [S.1,hl])],rz⟩
     . rw [List.getElem?_set_ne hqi,List.getElem?_set_ne hqi] at hq;obtain ⟨v,h1,h2⟩:=S.2 q z hq;exact ⟨v,by rw [List.getElem?_set_ne hqi]; show (σ.set i none)[q]? = _; rw [List.getElem?_set_ne hqi]; exact h1,h2⟩
   refine ⟨by show ((σ.set i none).set i (some x)).set i none=σ.set i none; simp,frD F U2 D H2,ρ,_,zh,R2',S2,?_⟩;unfold K8 at p;cases ht:tt ((zσ.set i none).set i (some it.items[j])) zh with
   | bad=>rw [ht] at p; exact (hP p).elim
   | exc _ _=>rw [ht] at p; exact (hP p).elim
   | ok b zh3 =>
     intro ρ3 H3 e3 R3;have I3:=I2.ext e3 R3 rfl;rw [ht] at p;cases b with
     | false =>
       rw [if_neg Bool.false_ne_true];simp only at p
       split at p
       . rename_i hgd;exact ⟨hlt,ρ3,zh3,xs,I3,hgd,p⟩
       . exact (hP p).elim
     | true =>
       rw [if_pos rfl];simp only at p;obtain ⟨U3,R3'⟩:=I3.rel
       have s3:Stb (UO (frD F U2 D H2) ρ zh) H2 (UO (frD F U3 D H3) ρ3 zh3) H3:=by
         have:=e3.stb;rw [K4] at this ⊢;rw [K4] at this ⊢;exact this
       refine ⟨frD F U3 D H3,ρ3,_,zh3,R3',⟨S2.1,fun q z hq=>let ⟨v,h1,h2⟩:=S2.2 q z hq; ⟨v,h1,RZ.mono s3 e3.pre h2⟩⟩,?_⟩;cases hd':de ((zσ.set i none).set i (some it.items[j])) zh3 with
       | bad=>rw [hd'] at p; exact (hP p).elim
       | exc _ _=>rw [hd'] at p; exact (hP p).elim
       | ok y zh4 =>
         intro ρ4 v H4 e4 R4 ry;rw [hd'] at p;simp only at p;have I4:=I3.ext e4 R4 rfl
         split at p
         . rename_i hgd;obtain ⟨vs,h1,h2⟩:=I4.lst;rw [K4] at ry;refine ⟨vs,h1,by rw [h2.length]; exact QV0 hgd.2,hlt,ρ4,zh4,xs++[y],I4.push h1 ry,hgd.1,p⟩
         . exact (hP p).elim
 . have e:j=it.items.length:=by omega
   subst e;rw [List.drop_length] at p;exact .inl ⟨hstop,fin ρ zh H xs I p⟩
theorem z_lc {x:Str} {p pos:Pos} {elt iter:Expr} {ifs:List Expr} {scope:Scope} {di:DI} {tt:DT} {de:DE} (k:Keep) (i:Nat) (hc:X.calm=true) (hN:X.N.Nodup) (hi:ZI g F X W (.Name x p) iter di) (ok:BlkOk X.N X.env.scope scope [(x,i)])
   (hg:∀ s H C cl fp,PG (Xb8 X scope s H C cl fp) (.Name x p) (gName i)) (ht:∀ F s H C cl fp,ZTs g F (Xb8 X scope s H C cl fp) W0 ifs tt) (he:∀ F s H C cl fp,ZE g F (Xb8 X scope s H C cl fp) W0 elt de)
   (hs:∀ x,foldedSetIterable iter X.env x=pure x:=by intro _; rfl):ZE g F X W (.ListComp elt [⟨.Name x p,iter,ifs,0⟩] scope pos) (dLc k di i tt de):=by
 refine PE.imp (pe_lc hc hN hi ok hg (fun s H C cl fp=>QE9 fun F=>ht F s H C cl fp) (fun s H C cl fp=>QR6 fun F=>he F s H C cl fp) hs) fun σ H Q ⟨ρ,zσ,zh,RH,RS,p⟩=>?_;refine ⟨ρ,zσ,zh,RH,RS,?_⟩;unfold dLc at p;cases hd:di zσ zh with
 | bad=>rw [hd] at p; exact p.elim
 | exc x h'=>rw [hd] at p; exact p
 | ok it zh1 =>
   rw [hd] at p;intro ρ1 J H1 e1 R1 g1 ok1 D hD;exact Qx0 (P:=fun o=>Post g F W ρ1 zσ zh1 σ H1 o Q) (fun z=>z) R1 (RS.mono e1) hD g1 ok1 (Post.shift (out:=(K8 it.guard (fun z=>(zσ.set i none).set i (some z)) tt de it.items zh1 []).bnd fun zs h2=>K1 k zs h2) e1 p) fun ρ zh' H' zs I p'=>QF0 R1 I p'
theorem QV7 {x y:Str} {p py pos spos:Pos} {elt iter:Expr} {ifs:List Expr} {scope:Scope} {di:DI} {tt:DT} {de:DE} (k:Keep) (iy:Nat) (i:Nat) (hc:X.calm=true) (hN:X.N.Nodup) (hi:ZI g F X W (.Name x p) iter di) (ok:BlkOk X.N X.env.scope scope [(x,i)])
   (hg:∀ s H C cl fp,PG (Xb8 X scope s H C cl fp) (.Name x p) (gName i)) (ht:∀ F s H C cl fp,ZTs g F (Xb8 X scope s H C cl fp) W0 ifs tt) (he:∀ F s H C cl fp,ZE g F (Xb8 X scope s H C cl fp) W0 elt de)
   (hy:X.N[iy]? = some y:=by rfl) (hyl:X.env.scope.names.lookup y=some .local:=by rfl)
   (hsw:swapsWith (.ListComp elt [⟨.Name x p,iter,ifs,0⟩] scope pos) (some (.Name y py)) spos.line X.env=pure true:=by exact sw_true rfl rfl rfl rfl)
   (hs:∀ x,foldedSetIterable iter X.env x=pure x:=by intro _; rfl):ZS1 g F X W (.Assign [.Name y py] (.ListComp elt [⟨.Name x p,iter,ifs,0⟩] scope pos) spos) (K7 (dLc k di i tt de) (Z8 iy)):=by
 refine PS.imp (ps_setLc hc hN hy hyl hsw hi ok hg (fun s H C cl fp=>QE9 fun F=>ht F s H C cl fp) (fun s H C cl fp=>QR6 fun F=>he F s H C cl fp) hs) fun Dn σ H ⟨ρ,zσ,zh,RH,RS,p⟩=>?_;refine ⟨ρ,zσ,zh,RH,RS,?_⟩;unfold K7 at p;cases hd:di zσ zh with
 | bad=>unfold dLc at p; rw [hd] at p; exact p.elim
 | exc x h' =>
   unfold dLc at p;rw [hd] at p;exact fun ρ' cls dx H' e1 e2 e3=>p ρ' σ cls dx H' e1 e2 (RS.mono e1) e3
 | ok it zh1 =>
   unfold dLc at p;rw [hd] at p;intro ρ1 J H1 e1 R1 g1 ok1 D hD;refine Qx0 (P:=fun o=>PostS g F W ρ1 zh1 H1 (o.bndS zσ fun z h1=>Z8 iy z zσ h1) Dn) (k:=k) (fun z=>z) R1 (RS.mono e1) hD g1 ok1 (PostS.shift e1 p) fun ρ zh' H' zs I p'=>?_;have:=QF0 (W:=W) (zσ:=zσ) (σ:=σ) (k:=k) (zs:=zs) (zh:=zh') (Q:=fun v H2=>Dn.nx (σ.set iy (some v)) H2) R1 I (Post.bndS (RS.mono e1) p' fun ρ1' z zh1' v H1' e1' R1' rz p1=>?_)
   . exact this
   . exact p1 ρ1' _ H1' Ext.refl R1' (((RS.mono e1).mono e1').set rz)
end
end Zl
end
section
namespace Zl
open PySem PySem.Spec PyProof.Rows L2
inductive Ty where
 | non | bl | int | str | tup | lst | dic
 deriving DecidableEq
def Ty.name:Ty->String
 | .non => "NoneType" | .bl => "bool" | .int => "int" | .str => "str" | .tup => "tuple" | .lst => "list" | .dic => "dict"
def Ty.isa (a b:Ty):Bool:=a == b || (a == .bl && b == .int)
theorem ty_isa (K:UZ9) (a b:Ty):PySem.W.kitOne K (.type a.name) (.type b.name)=some (a.isa b):=kit_ty (by cases a <;> cases b <;> decide +kernel)
def tyZ (z:Z) (h:ZH):Option Ty:=match z with
 | .d .non=>some .non
 | .d (.bl _)=>some .bl
 | .d (.int _)=>some .int
 | .d (.str _)=>some .str
 | .d (.tup _)=>some .tup
 | .d (.lst _)=>some .lst
 | .r i=>match h[i]? with
   | some (.dl _)=>some .lst
   | some (.zl _)=>some .lst
   | some (.dic _ _)=>some .dic
   | _=>none
 | _=>none
section
variable {g:G} {F:Fr} {X:Cx} {W:WX} {a b c e:Expr} {es:List Expr} {da db dc:DE} {pos:Pos} {ρ:List Addr} {zσ:ZS} {zh:ZH} {σ:L2.St} {H:Hp}
theorem tyZ_ok (r:RelH g F ρ zh H) {z:Z} {v:V} (rz:RZ g (UO F ρ zh) H ρ z v) {t:Ty} (h:tyZ z zh=some t):TyX g.K H v (.type t.name):=by
 unfold tyZ at h
 split at h
 . cases h; rw [rz_non.mp rz]; exact .base .non
 . cases h; rw [rz_bl.mp rz]; exact .base (.bl _)
 . cases h; rw [rz_int.mp rz]; exact .base (.int _)
 . cases h; rw [(rz_str.mp rz).1]; exact .base (.str _)
 . cases h; obtain ⟨a,vs,rfl,_,q,_⟩:=rd_tup.mp rz; exact q.elim (fun q=>.base (.tup q)) fun ⟨_,q⟩=>.fTuple q
 . cases h; obtain ⟨a,vs,rfl,_,q,_⟩:=rd_lst.mp rz; exact .base (.lst q)
 . rename_i i;obtain ⟨a,e1,rfl⟩:=rz;cases hz:zh[i]? with
   | none=>rw [hz] at h; cases h
   | some o =>
     rw [hz] at h;have ro:=r.own i a _ e1 hz;cases o with
     | dl xs=>cases h; obtain ⟨vs,q,_⟩:=ro; exact .base (.lst q)
     | zl xs=>cases h; obtain ⟨vs,q,_⟩:=ro; exact .base (.lst q)
     | dic ks xs =>
       cases h;obtain ⟨kvs,q,_⟩:=ro;exact .base (.dK q)
     | _=>cases h
 . cases h
def Xb9 (t:Ty) (d:DE):DE:=fun s h=>(d s h).bnd fun z h1=>match tyZ z h1 with
 | some u=>.ok (.d (.bl (u.isa t))) h1
 | none=>.bad
theorem QV8 {T:Expr} (t:Ty) {p:Pos} (hK:X.K=g.K) (hg:Gl X "isinstance") (hm:X.mg "isinstance" = none) (hT:PE X T (tC (.ty t.name))) (ha:ZE g F X W a da)
   (h1:starEach [a,T] X.env=(false,eval a X.env)::starEach [T] X.env:=by rfl) (h2:starEach [T] X.env=(false,eval T X.env)::starEach [] X.env:=by rfl) (hpl:(backTo pos (starEach [T] X.env)).any (·.1)=false:=by rfl) :
   ZE g F X W (.Call (.Name "isinstance" p) [a,T] [] pos) (Xb9 t da):=by
 refine PE.imp (pe_callB call_isi hg hm (by decide +kernel) (pa_cons ha (pa_cons hT pa_nil h2) h1) (by decide) (by decide) h1 hpl) fun σ H Q ⟨ρ,zσ,zh,RH,RS,p⟩=>?_;refine ⟨ρ,zσ,zh,RH,RS,Post.bnd p fun ρ1 z zh1 v H1 e1 R1 rz p1=>?_⟩;cases k:tyZ z zh1 with
 | none=>simp only [k] at p1; exact p1.elim
 | some u =>
   simp only [k] at p1;exact ⟨v,.ty t.name,_,_,_,rfl,.ty _,by rw [hK]; exact tyZ_ok R1 rz k,by rw [hK]; exact ty_isa _ u t,Post.done R1 p1 (rz_bl.mpr rfl)⟩
theorem QF1 {x:Str} {p:Pos} {T:String} (hg:Gl X x) (hm:X.mg x=none) (hv:bootBuiltins x=some (.type T):=by decide +kernel) (hn:x ≠ "__name__" := by decide) (hd:(x == ("__debug__" : Str))=false:=by decide):PE X (.Name x p) (tC (.ty T)) :=
 pe_bltn hg hm hv rfl hn hd
def Qq7 (c:Nat):DS:=fun s h=>.exc ⟨c,[]⟩ s h
theorem Qu3 (c:Nat) {pos':Pos} (hX:g.hasX c=true) (hc:X.calm=true) (tk:Takes X W) (he:PMk X e (fun _ H Q=>Q (.ref (g.cad c)) none H)):ZS1 g F X W (.Raise (some e) none pos') (Qq7 c):=by
 refine PS.imp (ps_raise hc tk he) fun D σ H ⟨ρ,zσ,zh,RH,RS,p⟩=>?_;exact p ρ σ _ none H Ext.refl RH RS ⟨rfl,hX,.inl ⟨rfl,rfl⟩⟩
abbrev Hit:=Nat->Option Bool
def QV9 (K:UZ9) (g:G) (cv:Value) (hit:Hit):Prop:=∀ c b,g.hasX c=true->hit c=some b->PySem.W.exmOne K (.ref (g.cad c)) cv=some b
def noExc:OutS->OutS
 | .exc _ _ _=>.bad
 | o=>o
open Classical in
def C0 (f:Addr->OutS):OutS:=if ∀ a,f a=f 0 then f 0 else .bad
theorem Qz7 {f:Addr->OutS} {o:OutS} (h:∀ a,f a=o):C0 f=o:=by
 unfold C0;rw [if_pos fun a=>(h a).trans (h 0).symm];exact h 0
def Qf1 (i:Nat):OutS->OutS
 | .nx s h=>.nx (s.set i none) h
 | .bk s h=>.bk (s.set i none) h
 | .ct s h=>.ct (s.set i none) h
 | .exc _ _ _=>.bad
 | o=>o
theorem RelS.wipe {g:G} {U:Addr->Prop} {i:Nat} {zσ:ZS} {σ:L2.St} (S:RelS g U H ρ zσ σ):RelS g U H ρ (zσ.set i none) (σ.set i none):=by
 refine ⟨by simp [S.1],fun j z h=>?_⟩
 by_cases e:i=j
 . subst e
   have hl:i<zσ.length:=by
     have:=(Xr0.mp h).1;simpa using this
   rw [Xr3 hl] at h;cases h
 . rw [List.getElem?_set_ne e] at h;obtain ⟨v,h1,h2⟩:=S.2 j z h;exact ⟨v,by rw [List.getElem?_set_ne e]; exact h1,h2⟩
theorem Qz8 {i:Nat} {o:OutS} {D:Ends} {W':WX} (p:PostS g F W ρ zh H (Qf1 i o) D) :
   PostS g F W' ρ zh H o { nx:=fun σ' H'=>D.nx (σ'.set i none) H',rt:=D.rt,bk:=fun σ' H'=>D.bk (σ'.set i none) H',ct:=fun σ' H'=>D.ct (σ'.set i none) H' }:=by
 cases o with
 | exc _ _ _=>exact p.elim
 | bad=>exact p
 | rt _ _=>exact p
 | nx s h=>exact fun ρ' σ' H' e R S=>p ρ' _ H' e R S.wipe
 | bk s h=>exact fun ρ' σ' H' e R S=>p ρ' _ H' e R S.wipe
 | ct s h=>exact fun ρ' σ' H' e R S=>p ρ' _ H' e R S.wipe
end
section
variable {g:G} {F:Fr} {X:Cx} {W:WX} {a b c e o value:Expr} {es:List Expr} {da db dc:DE} {pos pos' apos:Pos} {ρ:List Addr} {zσ:ZS} {zh:ZH} {σ:L2.St} {H:Hp}
abbrev FnRT (P:Program) (w:World) (K:UZ9) (mg:Str->Option Value) (base:Heap) (g:G) (k:Nat) (f:Addr) (M:Sem):Prop:=FnR P w K mg base (L2.CX P w) k f (lowF g M)
structure CmT (P:Program) (w:World) (K:UZ9) (mg:Str->Option Value) (base:Heap) (g:G) (k:Nat) (C:Addr) (m:Str) (M:Sem):Prop where
 ex:∃ mc p f,ClX.CRead K C mc/\ClX.CMet K C mc m p f/\FnRT P w K mg base g k f M
structure OwnB (K:UZ9) (C f:Addr) (nm:Str):Prop where
 sf:PySem.W.selfFirst K C=true
 at_:PySem.W.findIn K (.ref C) nm=some (some (.ref f))
 fn:PySem.W.isFn K (.ref f)=true
def BinE (P:Program) (w:World) (K:UZ9) (mg:Str->Option Value) (base:Heap) (g:G) (k:Nat) (nm:Str) (mt:Nat->Option Sem):Prop :=
 ∀ c M,g.has c=true->mt c=some M -> ∃ f fd ps,OwnB K (g.cad c) f nm/\FnT P w K mg base g k f fd ps M
def Qx1 {α:Type} (xs:List α) (lo hi:Option Int):List α:=(xs.drop (HT.sIx xs.length 0 lo)).take (HT.sIx xs.length xs.length hi - HT.sIx xs.length 0 lo)
theorem QF2 {U:Addr->Prop} {xs:List D} {vs:List V} {lo hi:Option Int} (r:RDs g U H xs vs):RDs g U H (Qx1 xs lo hi) (cutV vs lo hi):=by
 have hd:∀ {n:Nat} {xs:List D} {vs:List V},RDs g U H xs vs->RDs g U H (xs.drop n) (vs.drop n):=fun {n}=>by
   induction n with
   | zero=>intro xs vs r; exact r
   | succ n ih =>
     intro xs vs r;cases xs with
     | nil=>rw [rds_nil.mp r]; exact rds_nil.mpr rfl
     | cons x xs=>obtain ⟨v,vs',rfl,_,q⟩:=rds_cons.mp r; exact ih q
 have ht:∀ {n:Nat} {xs:List D} {vs:List V},RDs g U H xs vs->RDs g U H (xs.take n) (vs.take n):=fun {n}=>by
   induction n with
   | zero=>intro xs vs r; rw [List.take_zero,List.take_zero]; exact rds_nil.mpr rfl
   | succ n ih =>
     intro xs vs r;cases xs with
     | nil=>rw [rds_nil.mp r]; exact rds_nil.mpr rfl
     | cons x xs=>obtain ⟨v,vs',rfl,q1,q⟩:=rds_cons.mp r; exact rds_cons.mpr ⟨v,_,rfl,q1,ih q⟩
 unfold Qx1 cutV;rw [r.length];exact ht (hd r)
def Qi0:Option DE->ZS->ZH->Out (Option Int)
 | none=>fun _ h=>.ok none h
 | some d=>fun s h=>(d s h).bnd fun z h1=>match z with
   | .d (.int i)=>.ok (some i) h1
   | _=>.bad
def QW0 (z:Z) (lo hi:Option Int) (h:ZH):Out Z:=match z with
 | .d (.str s)=>.ok (.d (.str (Qx1 s lo hi))) h
 | .d (.tup xs)=>.ok (.d (.tup (Qx1 xs lo hi))) h
 | .d (.scr _)=>.bad
 | z=>match P7 z h with
   | some xs=>.ok (.d (.lst (Qx1 xs lo hi))) h
   | none=>.bad
def dSl (d:DE) (lo hi:Option DE):DE:=fun s h=>(d s h).bnd fun z h1=>(Qi0 lo s h1).bnd fun l h2=>(Qi0 hi s h2).bnd fun u h3=>QW0 z l u h3
def ZO' (g:G) (F:Fr) (X:Cx) (W:WX) (e:Option Expr) (d:Option DE):Prop:=(e=none/\d=none) \/ ∃ e' d',e=some e'/\d=some d'/\ZE g F X W e' d'
theorem QF3:ZO' g F X W none none:=.inl ⟨rfl,rfl⟩
theorem QF4 (h:ZE g F X W e da):ZO' g F X W (some e) (some da):=.inr ⟨e,da,rfl,rfl,h⟩
def lowO (g:G) (F:Fr) (W:WX) (d:ZS->ZH->Out (Option Int)):TO:=fun σ H Q=>∃ ρ zσ zh,RelH g F ρ zh H/\RelS g (UO F ρ zh) H ρ zσ σ/\match d zσ zh with
 | .ok i zh1=>∀ ρ1 H1,Ext F ρ zh H ρ1 zh1 H1->RelH g F ρ1 zh1 H1->Q i H1
 | .exc x zh1=>∀ ρ' cls dx H',Ext F ρ zh H ρ' zh1 H'->RelH g F ρ' zh1 H'->RX g (UO F ρ' zh1) H' x cls dx->W cls dx σ H'
 | .bad=>False
theorem po_of {oe:Option Expr} {od:Option DE} (h:ZO' g F X W oe od):PO X oe (lowO g F W (Qi0 od)):=by
 rcases h with ⟨rfl,rfl⟩ | ⟨e',d',rfl,rfl,h⟩
 . refine ⟨fun pins s σ H Q I ⟨ρ,zσ,zh,RH,RS,p⟩=>po_none.run pins s σ H Q I ?_⟩;exact p ρ H Ext.refl RH
 . refine ⟨fun pins s σ H Q I ⟨ρ,zσ,zh,RH,RS,p⟩=>(po_some h).run pins s σ H Q I ?_⟩;refine ⟨ρ,zσ,zh,RH,RS,?_⟩;dsimp only [Qi0] at p;cases k:d' zσ zh with
   | bad=>rw [k] at p; exact p
   | exc x zh1=>rw [k] at p; exact p
   | ok z zh1 =>
     rw [k] at p;intro ρ1 v H1 e1 R1 rz;simp only [Out.bnd] at p
     split at p
     . rename_i o i1 z1 heq
       split at heq
       . cases heq;exact ⟨_,rz_int.mp rz,p ρ1 H1 e1 R1⟩
       . cases heq
     . rename_i o i1 z1 heq
       split at heq <;> cases heq
     . exact p.elim
theorem z_sl {lo hi:Option Expr} {dl dh:Option DE} {p2:Pos} (hK:X.K=g.K) (he:ZE g F X W e da) (h1:ZO' g F X W lo dl) (h2:ZO' g F X W hi dh):ZE g F X W (.Subscript e (.Slice lo hi none p2) pos) (dSl da dl dh):=by
 refine PE.imp (pe_slice (SlR.or (sl_list (X:=X)) (SlR.or (sl_str (X:=X)) (sl_tupA (X:=X)))) he (po_of h1) (po_of h2)) fun σ H Q ⟨ρ,zσ,zh,RH,RS,p⟩=>?_;refine ⟨ρ,zσ,zh,RH,RS,Post.bnd p fun ρ1 z zh1 v H1 e1 R1 rz p1=>?_⟩;refine ⟨ρ1,zσ,zh1,R1,RS.mono e1,?_⟩;cases k1:Qi0 dl zσ zh1 with
 | bad=>rw [k1] at p1; exact p1.elim
 | exc x h=>rw [k1] at p1; exact p1
 | ok l zh2 =>
   rw [k1] at p1;have p1:Post g F W ρ1 zσ zh1 σ H1 ((Qi0 dh zσ zh2).bnd fun u h3=>QW0 z l u h3) Q:=p1;intro ρ2 H2 e2 R2;refine ⟨ρ2,zσ,zh2,R2,RS.mono (e1.trans e2),?_⟩;cases k2:Qi0 dh zσ zh2 with
   | bad=>rw [k2] at p1; exact p1.elim
   | exc x h=>rw [k2] at p1; exact Post.shift (out:=.exc x h) e2 p1
   | ok u zh3 =>
     rw [k2] at p1;have p1:Post g F W ρ1 zσ zh1 σ H1 (QW0 z l u zh3) Q:=p1;intro ρ3 H3 e3 R3;have p3:=Post.shift (e2.trans e3) p1;have rz3:=RZ.mono (e2.trans e3).stb (e2.trans e3).pre rz;unfold QW0 at p3
     split at p3
     . rename_i s;obtain ⟨ev,ok⟩:=rz_str.mp rz3;refine .inr (.inl ⟨_,ev,by simpa [mkS,Str.length] using ok.2,Post.done R3 p3 (rz_str.mpr ⟨?_,fun c hc=>ok.1 c ?_,?_⟩)⟩)
       . unfold cutS Qx1;simp [mkS,Str.length]
       . exact List.mem_of_mem_drop (List.mem_of_mem_take hc)
       . have:=ok.2;unfold Qx1;rw [List.length_take,List.length_drop];omega
     . rename_i xs _ _;obtain ⟨w,vs,ev,nu,q,r⟩:=rd_tup.mp rz3;refine .inr (.inr ⟨w,vs,ev,.inl q,fun hh=>?_,fun _ pp np=>Z2 R3 np p3 fun U nu' st=>rd_tup.mpr ⟨pp,_,rfl,nu',.inl upd_same,RDs.mono st _ _ (QF2 r)⟩⟩)
       have ec:Qx1 xs l u=xs:=by
         unfold Qx1;have hl:=r.length;rw [<- hl,hh.1,hh.2,hl];simp
       rw [ec] at p3;rw [<- ev];exact Post.done R3 p3 rz3
     . exact p3.elim
     . rename_i n1 n2 n3;cases hz:P7 z zh3 with
       | none=>simp only [hz] at p3; exact p3.elim
       | some xs =>
         simp only [hz] at p3
         have k':B5 z zh3=some xs:=by
           unfold P7 at hz;unfold B5
           split at hz
           . exact hz
           . exact absurd rfl (n2 _)
           . exact absurd rfl (n3 _)
           . exact hz
           . cases hz
         obtain ⟨w,vs,ev,q,r⟩:=O9 R3 rz3 k';exact .inl ⟨w,vs,ev,SqL.of q,fun pp np=>Z2 R3 np p3 fun U nu' st=>rd_lst.mpr ⟨pp,_,rfl,nu',upd_same,RDs.mono st _ _ (QF2 r)⟩⟩
def opMulS:Op2:=fun x y h=>match x,y with
 | .d (.str s),.d (.int i)=>if -1000000<=i/\i<=1 then .ok (.d (.str (if i<1 then [] else s))) h else .bad
 | x,y=>QU0 x y h
def rMulS:R2:=fun x y H Q=>∃ s i,x = .str s/\y = .int i /\ -1000000<=i/\i<=1/\Q (.str (if i<1 then Str.empty else s)) H
theorem QW1:OpR X (binaryOp .Mult) rMulS:=by
 intro pins s σ H x y v u Q I rx ry h;obtain ⟨z,i,rfl,rfl,h1,h2,q⟩:=h;obtain ⟨t,rfl⟩:=rx;obtain ⟨t2,rfl⟩:=ry
 by_cases hi:i<1
 . rw [if_pos hi] at q;exact PySem.P.mul_str_none hi (by omega) ⟨.str Str.empty,H,I.tok _,⟨_,rfl⟩,q⟩
 . rw [if_neg hi] at q;have e:i=1:=by omega
   subst e;refine PySem.P.mul_str (by decide) (fun _ hh=>by simp at hh) (fun _ hh=>by simp at hh) ?_;rw [if_neg (by decide),if_pos (by simp)];exact ⟨.str z,H,I,⟨t,rfl⟩,q⟩
theorem QN2:LowR2 g (fun x y H Q=>rMulS x y H Q\/rI CMul (fun i j=>.int (i*j)) x y H Q) opMulS:=by
 intro F W ρ zσ zh σ H zx zy x y Q RH rx ry p;unfold opMulS at p
 split at p
 . rename_i s i
   split at p
   . rename_i hi;obtain ⟨ex,ok⟩:=rz_str.mp rx;refine .inl ⟨_,i,ex,rz_int.mp ry,hi.1,hi.2,Post.done RH p (rz_str.mpr ⟨?_,?_⟩)⟩
     . by_cases h1:i<1
       . rw [if_pos h1,if_pos h1]; rfl
       . rw [if_neg h1,if_neg h1]
     . by_cases h1:i<1
       . rw [if_pos h1]; exact ⟨fun c hc=>(by cases hc),(by rw [sizeLine_eq]; exact Nat.zero_le _)⟩
       . rw [if_neg h1]; exact ok
   . exact p.elim
 . exact .inr (Qf9 (fun i j h=>QU1 h) RH rx ry p)
theorem Qn5 (ha:ZE g F X W a da) (hb:ZE g F X W b db):ZE g F X W (.BinOp a .Mult b pos) (Y1 opMulS da db):=QT8 (OpR.or QW1 op_mul) QN2 ha hb
end
section
variable {g:G} {F:Fr} {W:WX}
end
section
variable {g:G} {F:Fr} {X:Cx} {W:WX} {a b c e o value:Expr} {es:List Expr} {da db dc:DE} {pos pos' apos p:Pos} {d:DA}
theorem Qa5 (hK:X.K=g.K) (hm:X.mg "int" = none) (ha:ZA g F X W [e] d) (hg:Gl X "int" := by rfl) (he:starEach [e] X.env=(false,eval e X.env)::starEach [] X.env:=by rfl):ZE g F X W (.Call (.Name "int" p) [e] [] pos) (Y2 opInt d) :=
 Qg1 call_int1 QU5 hg hm (by decide +kernel) ha (by decide) (by decide) he (by rfl)
theorem zc_abs (hK:X.K=g.K) (hm:X.mg "abs" = none) (ha:ZA g F X W [e] d) (hg:Gl X "abs" := by rfl) (he:starEach [e] X.env=(false,eval e X.env)::starEach [] X.env:=by rfl):ZE g F X W (.Call (.Name "abs" p) [e] [] pos) (Y2 opAbs d) :=
 Qt7 call_abs QU6 hg hm (by decide +kernel) ha (by decide) (by decide) he (by rfl)
theorem B7 (hK:X.K=g.K) (hm:X.mg "len" = none) (ha:ZA g F X W [e] d) (hg:Gl X "len" := by rfl) (he:starEach [e] X.env=(false,eval e X.env)::starEach [] X.env:=by rfl):ZE g F X W (.Call (.Name "len" p) [e] [] pos) (Y2 opLen d) :=
 Qt7 call_len (by rw [hK]; exact QU7) hg hm (by decide +kernel) ha (by decide) (by decide) he (by rfl)
theorem G2 (own:Bool) (hK:X.K=g.K) (hm:X.mg "list" = none) (ha:ZA g F X W [e] d) (hg:Gl X "list" := by rfl) (he:starEach [e] X.env=(false,eval e X.env)::starEach [] X.env:=by rfl):ZE g F X W (.Call (.Name "list" p) [e] [] pos) (Y2 (I8 own) d) :=
 Qg1 call_list_of (by rw [hK]; exact QM8) hg hm (by decide +kernel) ha (by decide) (by decide) he (by rfl)
theorem Qa6 (hK:X.K=g.K) (hm:X.mg "tuple" = none) (ha:ZA g F X W [e] d) (hg:Gl X "tuple" := by rfl) (he:starEach [e] X.env=(false,eval e X.env)::starEach [] X.env:=by rfl):ZE g F X W (.Call (.Name "tuple" p) [e] [] pos) (Y2 opTuple d) :=
 Qg1 call_tuple_of (by rw [hK]; exact QD7) hg hm (by decide +kernel) ha (by decide) (by decide) he (by rfl)
def Qf2 (x:Nat):Hit:=fun c=>isx c x
structure ExcF (K:UZ9) (C:Addr):Prop where
 ex:PySem.W.excIn K C [.type "ValueError",.type "Exception",.type "BaseException",.type "object"] "ValueError.__new__" = true
 kp:PySem.W.keepIn K (.ref C)=true
 sb:PySem.W.subIn K (.ref C) (.type "BaseException")=some true
 ty:PySem.W.typeIn K (.ref C)=some (.type "type")
theorem Qi1 {C:Addr} {x m:Str} {j:Nat} {p2:Pos} (E:ExcF X.K C) (hm:X.mg x=some (.ref C)) (hg:Gl X x) (hdb:(x == ("__debug__" : Str))=false:=by decide):PMk X (.Call (.Name x p) [.Constant (.str m) j p2] [] pos) (fun _ H Q=>Q (.ref C) none H) :=
 L2.pmk_own PySem.F.excBase_ValueError E.ex hm E.kp (raises_own E.sb E.ty) hg hdb
def Cal (P:Program) (w:World) (g:G) (mg:Str->Option Value) (base:Heap) (k:Nat) (x:Str) (ps:List Str) (M:Sem):Prop:=∃ f fd,mg x=some (.ref f)/\FnT P w g.K mg base g k f fd ps M
def CalMk (P:Program) (w:World) (g:G) (mg:Str->Option Value) (base:Heap) (k:Nat) (c:Nat) (ps:List Str) (M:Sem):Prop:=∃ f fd,MkT P w g.K mg base g k (g.cad c) f fd ps M
theorem Cal.mono {P:Program} {w:World} {mg:Str->Option Value} {base:Heap} {k j:Nat} {x:Str} {ps:List Str} {M:Sem} (h:Cal P w g mg base k x ps M) (l:k<=j):Cal P w g mg base j x ps M :=
 let ⟨f,fd,m,T⟩:=h; ⟨f,fd,m,T.ok.mono l,T.kp,T.bi⟩
theorem CalMk.mono {P:Program} {w:World} {mg:Str->Option Value} {base:Heap} {k j c:Nat} {ps:List Str} {M:Sem} (h:CalMk P w g mg base k c ps M) (l:k<=j):CalMk P w g mg base j c ps M :=
 let ⟨f,fd,T⟩:=h; ⟨f,fd,T.mks,T.ok.mono l,T.bi⟩
def FnR.up {P:Program} {w:World} {K:UZ9} {mg:Str->Option Value} {base:Heap} {k j:Nat} {f:Addr} {sp:Sp} (h:FnR P w K mg base (L2.CX P w) k f sp) (l:k<=j):FnR P w K mg base (L2.CX P w) j f sp :=
 fun A outer s H us vs Q E hr=>h A outer s H us vs Q E (hr.mono l)
theorem CmT.mono {P:Program} {w:World} {mg:Str->Option Value} {base:Heap} {k j:Nat} {C:Addr} {m:Str} {M:Sem} (h:CmT P w g.K mg base g k C m M) (l:k<=j):CmT P w g.K mg base g j C m M :=
 let ⟨mc,p,f,h1,h2,h3⟩:=h.ex; ⟨mc,p,f,h1,h2,FnR.up h3 l⟩
theorem FnT.mono {P:Program} {w:World} {K:UZ9} {mg:Str->Option Value} {base:Heap} {k j:Nat} {f:Addr} {fd:FuncData} {ps:List Str} {M:Sem} (T:FnT P w K mg base g k f fd ps M) (l:k<=j):FnT P w K mg base g j f fd ps M:=⟨T.ok.mono l,T.kp,T.bi⟩
theorem BinE.mono {P:Program} {w:World} {mg:Str->Option Value} {base:Heap} {k j:Nat} {nm:Str} {mt:Nat->Option Sem} (h:BinE P w g.K mg base g k nm mt) (l:k<=j):BinE P w g.K mg base g j nm mt :=
 fun c M h1 h2=>let ⟨f,fd,ps,h3,h4⟩:=h c M h1 h2; ⟨f,fd,ps,h3,h4.mono l⟩
end
theorem DefZ.at_ {K:UZ9} {d:DefZ} (e:QC1 K (d.ad K)=d.val) (c:d.ok K=true):PySem.W.keepIn K (.ref (d.ad K))=true /\
   ∃ oc od osl kV doc pm an cdv ct,K.lookup (d.ad K)=some ⟨oc,od,.func (PySem.W.fnOf d.name d.qual d.params d.body d.scope .none kV doc pm an cdv ct),osl⟩/\PySem.W.codeIn K cdv d.qual=true:=by
 obtain ⟨kp,c2⟩:=He.ba c;refine ⟨kp,?_⟩;unfold QC1 at e;cases q:K.lookup (d.ad K) with
 | none=>rw [q] at c2; cases c2
 | some o =>
   obtain ⟨oc,od,dt,osl⟩:=o;rw [q] at c2 e;cases dt with
   | func fd =>
     obtain ⟨n1,n2,n3,n4,n5,n6,n7,n8,n9,n10,n11,n12,n13,n14,n15⟩:=fd;have e2:(some (n1,n2,n3,n4,n5,n6,n7,n15):He.FnW)=some (d.name,d.qual,d.params,.stmts d.body,d.scope,mainGlobals,[],builtinsNs):=e;simp only [Option.some.injEq,Prod.mk.injEq] at e2;obtain ⟨h1,h2,h3,h4,h5,h6,h7,h8⟩:=e2;subst h1 h2 h3 h4 h5 h6 h7 h8;obtain ⟨k1,k2⟩:=He.ba c2;cases n8 <;> first | exact ⟨oc,od,osl,n9,n10,n11,n12,n13,n14,rfl,k1⟩ | cases k2
   | _=>cases c2
theorem DefZ.funD {K:UZ9} {d:DefZ} (e:QC1 K (d.ad K)=d.val) (c:d.ok K=true):∃ fd,FunD K d.name d.qual d.params d.body d.scope [] [] (d.ad K) fd:=by
 obtain ⟨kp,oc,od,osl,kV,doc,pm,an,cdv,ct,h1,h2⟩:=DefZ.at_ e c;exact ⟨_,⟨oc,od,.none,kV,doc,pm,an,cdv,ct,osl,rfl,h1,h2,.inl ⟨rfl,rfl⟩,.inl rfl⟩,kp⟩
def obsZ (fa:List He.Fa) (ex:Exs) (fn:List He.DefD) (st:List DefZ) (K:UZ9):He.AlD :=
 ((fa.all fun f=>f.ok K) && ((ex.all fun f=>f K) && ((fn.all fun d=>d.ok K) && st.all fun d=>d.ok K)),(fn.map fun d=>He.fnW K d.at_)++st.map fun d=>QC1 K (d.ad K))
def valZ (fn:List He.DefD) (st:List DefZ):He.AlD:=(true,fn.map He.DefD.val++st.map DefZ.val)
def SaysZ (fa:List He.Fa) (ex:Exs) (fn:List He.DefD) (st:List DefZ) (K:UZ9):Prop:=obsZ fa ex fn st K=valZ fn st
section
variable {fa:List He.Fa} {ex:Exs} {fn:List He.DefD} {st:List DefZ} {K:UZ9}
theorem SaysZ.all (c:SaysZ fa ex fn st K):((fa.all fun f=>f.ok K) && ((ex.all fun f=>f K) && ((fn.all fun d=>d.ok K) && st.all fun d=>d.ok K)))=true:=congrArg (fun z:He.AlD=>z.1) c
theorem SaysZ.fact (c:SaysZ fa ex fn st K) (i:Nat) {f:He.Fa} (h:fa[i]? = some f:=by rfl):f.ok K=true:=List.all_eq_true.mp (He.ba c.all).1 f (Xq8 h)
theorem SaysZ.xs (c:SaysZ fa ex fn st K) (i:Nat) {f:UZ9->Bool} (h:ex[i]? = some f:=by rfl):f K=true:=List.all_eq_true.mp (He.ba (He.ba c.all).2).1 f (Xq8 h)
theorem SaysZ.lists (c:SaysZ fa ex fn st K):(fn.map fun d=>He.fnW K d.at_)=fn.map He.DefD.val/\(st.map fun d=>QC1 K (d.ad K))=st.map DefZ.val :=
 List.append_inj (congrArg (fun z:He.AlD=>z.2) c) (by rw [Xq5,Xq5])
theorem SaysZ.def_ (c:SaysZ fa ex fn st K) (i:Nat) {d:He.DefD} (h:fn[i]? = some d:=by rfl):∃ fd,FunD K d.name d.qual d.params d.body d.scope (d.dvs K) (d.kws K) (He.fAd K d.at_) fd:=by
 have c2:=(He.ba (He.ba (He.ba c.all).2).2).1;have e2:(fn.map fun d=>He.fnW K d.at_)[i]? = (fn.map He.DefD.val)[i]?:=by rw [c.lists.1]
 rw [Xq7,Xq7,h] at e2;exact He.DefD.funD (Option.some.inj e2) (List.all_eq_true.mp c2 d (Xq8 h))
theorem SaysZ.st_ (c:SaysZ fa ex fn st K) (i:Nat) {d:DefZ} (h:st[i]? = some d:=by rfl):QC1 K (d.ad K)=d.val/\d.ok K=true:=by
 have c2:=(He.ba (He.ba (He.ba c.all).2).2).2;have e2:(st.map fun d=>QC1 K (d.ad K))[i]? = (st.map DefZ.val)[i]?:=by rw [c.lists.2]
 rw [Xq7,Xq7,h] at e2;exact ⟨Option.some.inj e2,List.all_eq_true.mp c2 d (Xq8 h)⟩
end
section
variable {K:UZ9}
theorem Qg6 {x:Str} (h:Qm4 x K=true):ExcC K (He.ga K x):=by
 obtain ⟨h1,h⟩:=He.ba h;obtain ⟨h2,h⟩:=He.ba h;obtain ⟨h3,h⟩:=He.ba h;obtain ⟨h4,h⟩:=He.ba h;obtain ⟨h5,h⟩:=He.ba h;obtain ⟨h6,h⟩:=He.ba h;obtain ⟨h7,h8⟩:=He.ba h;exact ⟨He.eqO_ok h1,He.eqO_ok h2,of_decide_eq_true h3,h4,He.eqO_ok h5,He.eqO_ok h6,of_decide_eq_true h7,of_decide_eq_true h8⟩
theorem K2 {x y:Str} {b:Bool} (h:D3 x y b K=true):PySem.W.kitOne K (.ref (He.ga K x)) (.ref (He.ga K y))=some b:=of_decide_eq_true h
theorem Qg7 {x:Str} {T:String} {b:Bool} (h:Qm5 x T b K=true):PySem.W.kitOne K (.ref (He.ga K x)) (.type T)=some b:=of_decide_eq_true h
theorem QW2 {x:Str} (h:(He.Fa.exc x).ok K=true):ExcF K (He.ga K x):=let ⟨a,b,c,d⟩:=He.exc_ok h; ⟨a,b,c,d⟩
end
def cnm (c:Nat):Str:=cnames.getD c Str.empty
def gOf (hs hx:Nat->Bool) (K:UZ9) (w:World):G:=⟨K,fun c=>He.ga K (cnm c),hs,hx,w⟩
theorem law_sp {g:G} {M:Sem} {H:Hp} {a:Addr} {ns:List Int} (hS:SqL g.K H a (ns.map V.int)) (h:∃ zh,M [.d (.scr (ns.map D.int))] [] = .ok (.d (.bl true)) zh):lowF g M [.ref a] H (fun v _=>v = .bl true) fun _ _ _=>False:=by
 obtain ⟨zh,h⟩:=h
 have rds:∀ ns:List Int,RDs g (UO ⟨fun _=>False,fun _=>False,H⟩ [] []) H (ns.map D.int) (ns.map V.int):=fun ns=>by
   induction ns with
   | nil=>exact rds_nil.mpr rfl
   | cons i r ih=>exact rds_cons.mpr ⟨_,_,rfl,rd_int.mpr rfl,ih⟩
 have nu:∀ a,¬ UO ⟨fun _=>False,fun _=>False,H⟩ [] [] a:=fun a z=>by
   rcases z with z | ⟨i,o,e,_⟩
   . exact z
   . simp at e
 refine ⟨⟨fun _=>False,fun _=>False,H⟩,[],[.d (.scr (ns.map D.int))],[],⟨rfl,List.nodup_nil,fun i a o e=>by simp at e,fun a z=>z.elim,fun a m=>by simp at m,fun a m=>by simp at m,fun a o e _=>⟨e,nu a⟩⟩,⟨_,_,rfl,rd_scr.mpr ⟨a,_,rfl,?_,rds ns⟩,rfl⟩,?_⟩
 . rcases hS with hS | hS
   . exact .inl ⟨nu a,hS⟩
   . exact .inr fun H'=>.inr hS
 . rw [h];exact fun ρ' v H' e R rz=>rz_bl.mp rz
theorem Qq8:∀ xs:List D,(xs.map Z.d).flatMap K3=[]
 | []=>rfl
 | x::xs=>by rw [Xr4,List.flatMap_cons,Qq8 xs]; rfl
theorem QW3 (fp:List Nat):∀ xs:List D,(xs.map Z.d).map (Qk3 fp)=xs.map Z.d
 | []=>rfl
 | x::xs=>by rw [Xr4,Xr4,QW3 fp xs]; rfl
theorem QW4 {M:Sem} {xs:List D} {h:ZH} {z:D} (e:M (xs.map .d) [] = .ok (.d z) []):J8 M (xs.map .d) h = .ok (.d z) h:=by
 unfold J8;rw [Qq8];have r:P0 h 40 [] []=[]:=by unfold P0; rfl
 dsimp only;rw [r];have c:T6 h [] (xs.map .d)=true:=by unfold T6; rw [Qq8]; rfl
 rw [if_pos c,QW3,List.map_nil,e];simp [unZ,Q9,Qa1]
theorem Qn6 {M:Sem} {i:Nat} {xs:List D} {h:ZH} {ds ds':List D} {z:D} (hi:h[i]? = some (.dl ds)) (e:M (.r 0::xs.map .d) [.dl ds] = .ok (.d z) [.dl ds']):J8 M (.r i::xs.map .d) h = .ok (.d z) (h.set i (.dl ds')):=by
 have hg:h.getD i .gone = .dl ds:=by simp [List.getD_eq_getElem?_getD,hi]
 have hl:i<h.length:=(Xr0.mp hi).1;unfold J8;rw [List.flatMap_cons,Qq8]
 have r:P0 h 40 (K3 (.r i)++[]) []=[i]:=by
   show P0 h 40 [i] []=[i];unfold P0;rw [if_neg (by simp)];rw [hg];show P0 h 39 [] [i]=[i];unfold P0;rfl
 dsimp only;rw [r]
 have c:T6 h [i] (.r i::xs.map .d)=true:=by
   unfold T6;rw [List.flatMap_cons,Qq8];simp only [List.all_cons,List.all_nil,List.append_nil,K3,hg,M7,Qa0,Bool.and_true];simp [hl]
 rw [if_pos c,Xr4,QW3];have e1:Qk3 [i] (.r i) = .r 0:=by simp [Qk3]
 have e2:([i].map fun j=>QM9 [i] (h.getD j .gone))=[.dl ds]:=by
   rw [Xr4,List.map_nil,hg]; rfl
 rw [e1,e2,e];simp [unZ,Q9,Qa1,unO]
theorem Qz9 {lo:Int} {n i:Nat} {z:Z} (h:(H9 lo n)[i]? = some z):i<n/\z = .d (.int (lo+i)):=by
 unfold H9 at h;obtain ⟨hl,e⟩:=Xr0.mp h;simp at hl e;exact ⟨hl,e.symm⟩
theorem QA0 {lo:Int} {n:Nat}:(H9 lo n).length=n:=by simp [H9]
def PD (n:Nat) (d:D):Prop:=∃ p,d.py=some p/\p.depth<=n/\PyData.eqv p p=true
def PDs (n:Nat) (ds:List D):Prop:=∃ ps,D.pys ds=some ps/\PyData.depthAll ps<=n/\PyData.eqvAll ps ps=true
theorem PD.mono {n m:Nat} {d:D} (h:PD n d) (l:n<=m):PD m d:=let ⟨p,a,b,c⟩:=h; ⟨p,a,Nat.le_trans b l,c⟩
theorem pd_int {i:Int}:PD 0 (.int i):=⟨_,by unfold D.py; rfl,by simp [PyData.depth],by simp [PyData.eqv]⟩
theorem QR7 {n:Nat}:∀ {ds:List D},(∀ d∈ds,PD n d)->PDs n ds
 | [],_=>⟨[],by unfold D.pys; rfl,by simp [PyData.depthAll],by simp [PyData.eqvAll]⟩
 | d::ds,h=>by
   obtain ⟨p,a,b,c⟩:=h d Xr1;obtain ⟨ps,a2,b2,c2⟩:=QR7 fun x hx=>h x (Xq9 _ hx);exact ⟨p::ps,by unfold D.pys; rw [a,a2]; rfl,by rw [PyData.depthAll]; omega,by rw [PyData.eqvAll,c,c2]; rfl⟩
theorem QW5 {i j:Int}:peq (.int i) (.int j)=some (i == j):=by
 simp [peq,D.py,PyData.depth,PyData.eqv]
theorem QW6 {n:Nat} {ds:List D} (h:∀ d∈ds,PD n d) (l:n<64):peq (.lst ds) (.lst [])=some ds.isEmpty:=by
 obtain ⟨ps,a,b,c⟩:=QR7 h;have e:(D.lst ds).py=some (.list ps):=by unfold D.py; rw [a]; rfl
 have e2:(D.lst []).py=some (.list []):=by unfold D.py; unfold D.pys; rfl
 unfold peq;rw [e,e2];dsimp only;rw [if_pos ⟨by rw [PyData.depth]; omega,by simp [PyData.depth,PyData.depthAll]⟩,PyData.eqv];cases ds with
 | nil=>unfold D.pys at a; cases a; simp [PyData.eqvAll]
 | cons d r =>
   unfold D.pys at a;cases hd:d.py with
   | none=>rw [hd] at a; cases a
   | some q =>
     rw [hd] at a;cases hr:D.pys r with
     | none=>rw [hr] at a; cases a
     | some qs=>rw [hr] at a; cases a; simp [PyData.eqvAll]
def Ints (ds:List D):Prop:=∀ d∈ds,∃ i,d = .int i
theorem Ints.pd {ds:List D} (h:Ints ds):∀ d∈ds,PD 0 d:=fun d hd=>by obtain ⟨i,rfl⟩:=h d hd; exact pd_int
theorem QW7 {n:Nat}:(-4611686018427387904:Int)<=(n:Int):=Int.le_trans (by decide) (Int.natCast_nonneg n)
theorem QN3 {n:Nat} (hn:n<1000000):(n:Int)<4611686018427387904:=Int.lt_of_lt_of_le (Int.ofNat_lt.mpr hn) (by decide)
theorem fnOk0 {P:Program} {w:World} {K:UZ9} {mg:Str->Option Value} {base:Heap} {g:G} {k:Nat} {f:Addr} {fd:FuncData} {ps:List Str} {M:Sem} (F:FnOk P w K mg base (L2.CX P w) k f fd ps (lowF g M)) :
   FnOk P w K mg base L2.CX0 k f fd ps (fun vs H Q _=>lowF g M vs H Q fun _ _ _=>False):=by
 refine ⟨fun vs H Q E h=>F.len vs H Q _ h,fun A outer s H args us vs Q E hr e0 hb r h=>?_⟩;refine codeAny_mono (F.run A outer s H args us vs Q _ hr e0 hb r h) fun r s' hq=>?_;cases r with
 | error e =>
   obtain ⟨_,_,_,_,_,_,_,_,_,_,_,_,q⟩:=hq;exact q.elim
 | ok fl=>cases fl <;> exact hq
def ded {α:Type} [DecidableEq α] (xs:List α):List α:=xs.foldl (fun acc x=>if x∈acc then acc else acc++[x]) []
section
variable {α:Type} [DecidableEq α]
theorem Qa7 (xs:List α) (x:α):ded (xs++[x])=if x∈ded xs then ded xs else ded xs++[x]:=by
 unfold ded;rw [List.foldl_append];rfl
theorem Qn7 {xs:List α} {i:Nat} (h:i<xs.length):ded (xs.take (i+1))=if xs[i]∈ded (xs.take i) then ded (xs.take i) else ded (xs.take i)++[xs[i]]:=by
 rw [<- List.take_append_getElem h,Qa7]
theorem Qx2 (xs:List α):(ded xs).length<=xs.length:=by
 suffices H:∀ n,(ded (xs.take n)).length<=n from by
   have:=H xs.length
   rwa [List.take_length] at this
 intro n
 induction n with
 | zero=>simp [ded]
 | succ n ih =>
   by_cases h:n<xs.length
   . rw [Qn7 h]
     split
     . omega
     . simp; omega
   . rw [List.take_of_length_le (by omega)] at ih ⊢;omega
end
section
variable {prog:Program} {w:World} {A:Around} {R:Result->Shared->Prop} {I:Addr} {fp wr:List Addr} {G:Array GenState->Array GenState->Prop} {n:Nat} {P:Nat->Value->Prop} {St:Nat->Shared->Prop}
def Holds (prog:Program) (w:World) (S:Addr) (xs:List Str) (i:Nat) (h:Heap):Prop:=h.SetOf (PySem.strKind prog w) S (fun k=>decide (k∈ded (xs.take i))) (ded (xs.take i)).length
theorem Holds.at_ {S:Addr} {xs:List Str} {i:Nat} {h h':Heap} (k:∀ o,h.get? S=some o->h'.get? S=some o) (hs:Holds prog w S xs i h):Holds prog w S xs i h':=by
 obtain ⟨o,es,ep,t,ho,r⟩:=hs;exact ⟨o,es,ep,t,k o ho,r⟩
theorem QF5 (W:WalksS prog w A.in1 I fp wr G n P St) (S:Addr) (fresh:S∉fp) (xs:List Str) (len:xs.length=n) (small:n+1<scanBound)
   (item:∀ i v,P i v -> ∃ t,v = .str (xs.getD i Str.empty) t) (m:Nat):∀ (i:Nat) (s:Shared),i+m=n->St i s->Holds prog w S xs i s.heap ->
     (∀ s',Moved (S::wr) G s s'->Holds prog w S xs n s'.heap->R (.ok (.ret .none)) s')->codeAny (model prog w) A (.builtin "set.update.loop" ⟨[.ref S,.ref I],[]⟩) R s:=by
 have nw:S∉wr:=fun q=>fresh (W.sub _ q);have sub:∀ b∈wr,b∈S::wr:=fun b=>Xq9 _
 induction m with
 | zero =>
   intro i s e st hs k;have e:i=n:=by omega
   subst e;refine codeAny_builtin PyProof.Rows.F.entry_set_update_loop ?_;rw [Around.under_plainId PyProof.Rows.F.plain_set_update_loop _];refine wpAny_bind (m:=pyNext (.ref I)) (W.done s _ _ st fun s1 hm=>?_);exact wpAny_pure (k s1 (hm.mono sub) (hs.at_ fun o=>hm.heap S o nw))
 | succ m ih =>
   intro i s e st hs k;have lt:i<n:=by omega
   refine codeAny_builtin PyProof.Rows.F.entry_set_update_loop ?_;rw [Around.under_plainId PyProof.Rows.F.plain_set_update_loop _];refine wpAny_bind (m:=pyNext (.ref I)) (W.item i s _ _ lt st fun v s1 hv st1 hm=>?_);obtain ⟨t,rfl⟩:=item i v hv;have hx:xs.getD i Str.empty=xs[i]'(by omega):=by simp [List.getD_eq_getElem?_getD,Xq6 (show i<xs.length by omega)]
   have hs1:Holds prog w S xs i s1.heap:=hs.at_ fun o=>hm.heap S o nw;refine wpAny_bind (wpAny_holding ?_);unfold setAdd;refine wpAny_holding (wpAny_bind ((PySem.strKind prog w).pyHash (k:=xs.getD i Str.empty) (strKind_is _ _ _ _) ?_))
   have room:(ded (xs.take i)).length+1<scanBound:=by
     have h1:=Qx2 (xs.take i);have h2:(xs.take i).length=i:=by rw [List.length_take]; omega
     omega
   refine wpAny_setAddHashed_of (knd:=PySem.strKind prog w) (s:={ s1 with toks:=s1.toks+1 }) (strKind_is _ _ _ _) rfl hs1 room fun h2 same hs2=>?_
   have hs3:Holds prog w S xs (i+1) h2:=by
     refine PyProof.Rows.SetOf_congr hs2 (fun q=>?_) ?_
     . rw [Qn7 (show i<xs.length by omega),hx]
       by_cases c:xs[i]'(by omega)∈ded (xs.take i)
       . rw [if_pos c]
         by_cases d:q=xs[i]'(by omega)
         . subst d; simp [c]
         . simp [d]
       . rw [if_neg c];simp
     . rw [Qn7 (show i<xs.length by omega),hx]
       by_cases c:xs[i]'(by omega)∈ded (xs.take i)
       . simp [c]
       . simp [c]
   refine wpAny_pure ⟨plainId_quiet PyProof.Rows.F.plain_set_update_loop _,ih (i+1) _ (by omega) (W.frame _ s1 _ _ st1 (Nat.le_succ _) fun b hb o q=>?_) hs3 fun s4 hm4 hs4=>?_⟩
   . have ne:b≠S:=fun z=>fresh (z ▸ hb);exact (same.2 b ne).trans q
   . refine k s4 (Moved.trans W.gtrans ((hm.mono sub).then_heap (Nat.le_succ _) fun b o hb q=>?_) hm4) hs4;have ne:b≠S:=fun z=>hb (z ▸ Xr1);exact (same.2 b ne).trans q
end
section
variable {prog:Program} {w:World} {A:Around} {E:Value->Shared->Prop} {s:Shared} {l:Addr} {items:Array Value} {xs:List Str}
structure Src (prog:Program) (w:World) (T:String) (l:Addr) (items:Array Value) (ol:Obj) (itr:Obj) (St:Addr->Nat->Heap->Prop):Prop where
 cls:ol.cls = .type T
 notSet:isSubtype (.type T) (.type "set")=pure false
 notFroz:isSubtype (.type T) (.type "frozenset")=pure false
 notDict:(Value.type T == Value.type "dict")=false
 iter:∀ (A:Around) (E:Value->Shared->Prop) (s:Shared) (Q:Value->Shared->Prop),s.heap.get? l=some ol->Q (.ref s.heap.objs.size) { s with heap:=s.heap.push itr }->wpAny (model prog w) A (pyIter (.ref l)) Q E s
 walk:∀ (A:Around) (I:Addr),A.handled=none->l≠I->WalksS prog w A I [I,l] [I] (fun g g'=>g'=g) items.size (fun i v=>items[i]? = some v) (fun i s=>St I i s.heap)
 start:∀ (h:Heap),h.get? l=some ol->St h.objs.size 0 (h.push itr)
theorem Qq9 {T:String} {ol itr:Obj} {St:Addr->Nat->Heap->Prop} {Q:Value->Shared->Prop} (c:Src prog w T l items ol itr St) (calm:A.handled=none) (here:s.heap.get? l=some ol) (texts:PyProof.Rows.StrsAre items.toList xs) (small:items.size+1<scanBound)
   (q:∀ (h2:Heap) (tk:Nat),Holds prog w s.heap.objs.size xs xs.length h2->(∀ b o,b<s.heap.objs.size->s.heap.get? b=some o->h2.get? b=some o)->Q (.ref s.heap.objs.size) { s with heap:=h2,toks:=tk }) :
   wpAny (model prog w) A (call (.type "set") [.ref l]) Q E s:=by
 have n1:xs.length=items.size:=by rw [<- StrsAre.len_eq texts,Array.length_toList]
 obtain ⟨cc,tl,mro⟩:=PySem.F.called_set.mro;have f1:=PySem.F.called_set.made;have f2:=PySem.F.called_set.sub;refine wpAny_call (codeAny_of_tree ?_);show wpAny _ _ (callAny (.type "set") _) _ _ _;refine wpAny_pure ⟨Code.quiet_builtin _ (by decide +kernel),?_⟩;refine codeAny_builtin PySem.F.entry_type_call ?_;rw [Around.under_plain (weight_type_call_type "set" [.ref l] []) rfl];have f3:=PySem.F.called_set.notType;have f4:=PySem.F.called_set.canCreate;have f5:=PySem.F.typeCall_set_1 (.ref l)
 repeat (any_goals (first | assumption | wp_step))
 let fresh:Bool->Heap:=fun b=>s.heap.push { cls:=.type "set",dict:=none,data:=.set #[] 0 (.fresh 0 0 b) }
 refine codeAny_mono (code_set_new_1 (.ref l) (E:=E) (Q₁:=fun o s1=>∃ b,o = .ref s.heap.objs.size/\s1={ s with heap:=fresh b }) fun b=>⟨b,rfl,rfl⟩) fun r s1 h1=>?_
 match r,h1 with
 | .error e,h1=>exact h1
 | .ok (.ret o),⟨b,e1,e2⟩ =>
   subst e1; subst e2;have g1:(fresh b).get? s.heap.objs.size=some { cls:=.type "set",dict:=none,data:=.set #[] 0 (.fresh 0 0 b) }:=Heap.get?_push_size _ rfl;have g2:Shared.TypeIs { s with heap:=fresh b } (.ref s.heap.objs.size) "set" := ⟨_,g1,rfl⟩;have g3:=PySem.F.called_set.init.lookup;have g4:=PySem.F.called_set.init.bind (.ref s.heap.objs.size)
   repeat (any_goals (first | assumption | wp_step))
   refine codeAny_mono (codeAny_call_builtin (R:=wants (fun v s2=>v = .none /\ ∃ h2 tk,s2={ s with heap:=h2,toks:=tk }/\Holds prog w s.heap.objs.size xs xs.length h2 /\
     ∀ b o,b<s.heap.objs.size->s.heap.get? b=some o->h2.get? b=some o) E) PySem.F.called_set.init.plain PySem.F.entry_set_init (check_set_init_1 g2 ?_)) fun r2 s2 h2=>?_
   . have k0:(fresh b).get? l=some ol:=Heap.get?_push_of_some _ here;have k1:=c.notSet;have k2:=c.notFroz;have k3:=c.notDict;obtain ⟨ocls,odict,odata,oslots⟩:=ol;have k4:ocls = .type T:=c.cls;subst k4;unfold Builtin.«set.__init__» noKeywords Builtin.Frozenset.updateFrom;generalize ei:pyIter=PI
     wp_walk
     subst ei;refine c.iter _ _ _ _ k0 ?_;refine wpAny_bind (wpAny_runValue ?_);have lt:l<s.heap.objs.size:=Heap.lt_size here;have sz:∀ o,(s.heap.push o).objs.size=s.heap.objs.size+1:=fun o=>Heap.size_push _ _;have ne:l≠(fresh b).objs.size:=by rw [sz]; exact Nat.ne_of_lt (Nat.lt_succ_of_lt lt)
     refine QF5 (c.walk _ _ (by simp [calm]) ne) s.heap.objs.size ?_ xs n1 small ?_ items.size 0 _ (by omega) (c.start _ k0) ?_ ?_
     . show s.heap.objs.size∉[(fresh b).objs.size,l];rw [sz];simp only [List.mem_cons,List.not_mem_nil,or_false,not_or];exact ⟨Nat.ne_of_lt (Nat.lt_succ_self _),Nat.ne_of_gt lt⟩
     . intro i v hv;exact SS.strs_at texts i v (by rw [Array.getElem?_toList]; exact hv)
     . refine PyProof.Rows.SetOf_congr ((PyProof.Rows.setObjOf_fresh (knd:=PySem.strKind prog w) b).setOf (Heap.get?_push_of_some _ g1) (Nat.lt_of_le_of_lt (Nat.zero_le _) small)) (fun _=>rfl) rfl
     . rintro ⟨h3,gg,dd,tk,os⟩ mv hs3;cases mv.gens;cases mv.drawn;cases mv.os;refine wpAny_pure ?_;refine wpAny_pure (a:=_) ⟨rfl,h3,tk,rfl,?_,fun a o ha e=>?_⟩
       . rw [n1]; exact hs3
       . refine mv.heap a o ?_ (Heap.get?_push_of_some _ (Heap.get?_push_of_some _ e));show a∉[s.heap.objs.size,(fresh b).objs.size];rw [sz];simp only [List.mem_cons,List.not_mem_nil,or_false,not_or];exact ⟨Nat.ne_of_lt ha,Nat.ne_of_lt (Nat.lt_succ_of_lt ha)⟩
   . match r2,h2 with
     | .error e,h2=>exact h2
     | .ok (.ret v),⟨e1,h3,tk,e2,e3,e4⟩ =>
       subst e1; subst e2
       repeat (any_goals (first | assumption | wp_step))
       exact q _ _ e3 e4
     | .ok .next,h2=>exact h2.elim
     | .ok .brk,h2=>exact h2.elim
     | .ok .cont,h2=>exact h2.elim
 | .ok .next,h1=>exact h1.elim
 | .ok .brk,h1=>exact h1.elim
 | .ok .cont,h1=>exact h1.elim
end
section
variable {prog:Program} {w:World} {l:Addr} {items:Array Value} {ol:Obj}
theorem QN4 (hc:ol.cls = .type "list") (hd:∃ n,ol.data = .seq items n):Src prog w "list" l items ol { cls:=.type "list_iterator",data:=.fields #[.ref l,.int 0 0] } (fun I i h=>h.IsListIter I l i/\h.IsList l items) where
 cls:=hc
 notSet:=PySem.F.sub_list_set
 notFroz:=PySem.F.sub_list_frozenset
 notDict:=by decide
 iter:=fun A E s Q e q=>wpAny_pyIter_list ⟨ol,e,hc,hd⟩ q
 walk:=fun A I calm ne=>(Walks.list calm I l ne items).toS
 start:=fun h e=>⟨⟨_,Heap.get?_push_size _ rfl,rfl,rfl⟩,⟨ol,Heap.get?_push_of_some _ e,hc,hd⟩⟩
theorem QF6 (hc:ol.cls = .type "tuple") (hd:∃ n,ol.data = .seq items n):Src prog w "tuple" l items ol { cls:=.type "tuple_iterator",data:=.fields #[.ref l,.int 0 0] } (fun I i h=>h.IsTupleIter I l i/\h.IsTuple l items) where
 cls:=hc
 notSet:=PySem.F.sub_tuple_set
 notFroz:=PySem.F.sub_tuple_frozenset
 notDict:=by decide
 iter:=fun A E s Q e q=>wpAny_pyIter_tuple ⟨ol,e,hc,hd⟩ q
 walk:=fun A I calm ne=>(Walks.tuple calm I l ne items).toS
 start:=fun h e=>⟨⟨_,Heap.get?_push_size _ rfl,rfl,rfl⟩,⟨ol,Heap.get?_push_of_some _ e,hc,hd⟩⟩
end
section
variable {X:Cx}
def QW8 (K:UZ9) (ta:TE):TE:=fun σ H Q=>ta σ H fun x H1=>∃ l,∃ xs:List Str,x = .ref l/\(SqL K H1 l (xs.map V.str)\/SqT K H1 l (xs.map V.str))/\xs.length<1000/\Q (.int (ded xs).length) H1
theorem QF7 {a:Expr} {ta:TE} {p p2 q pos:Pos} (hc:X.calm=true) (hg:Gl X "len") (hm:X.mg "len" = none) (hg2:Gl X "set") (hm2:X.mg "set" = none) (ha:PE X a ta)
   (na:starEach [a] X.env=(false,eval a X.env)::starEach [] X.env:=by rfl):PE X (.Call (.Name "len" p) [.Call (.Name "set" p2) [a] [] q] [] pos) (QW8 X.K ta):=by
 refine ⟨fun pins s σ H Q I h=>?_⟩;refine Call_ (ld_blt I hg hm boot_len ?_);refine PyProof.Rows.callWith_builtin1 (PyProof.Rows.args_cons ?_ rfl) rfl rfl;refine Call_ (ld_blt I hg2 hm2 boot_set ?_);refine PyProof.Rows.callWith_type1 (PyProof.Rows.args_cons (thn (ha.run pins s σ H _ I h) fun v s1 ⟨x,H1,I1,r1,q1⟩=>PyProof.Rows.args_nil ?_) na) na rfl;obtain ⟨l,xs,rfl,hq,h1,q1⟩:=q1;cases r1;have calm:=I1.ok.hd hc
 have fin:∀ (h2:Heap) (tk:Nat),Holds X.prog X.w s1.heap.objs.size xs xs.length h2->(∀ b o,b<s1.heap.objs.size->s1.heap.get? b=some o->h2.get? b=some o) ->
     wpAny (model X.prog X.w) X.A (spliced (backTo pos (starEach [] X.env))) (fun vs s2=>wpAny (model X.prog X.w) X.A (call (.builtin "len") (Value.ref s1.heap.objs.size::vs)) (EP X pins σ Q) X.xe s2) X.xe { s1 with heap:=h2,toks:=tk }:=fun h2 tk hs hk=>by
   refine PyProof.Rows.args_nil ?_;unfold Holds at hs;rw [List.take_length] at hs;obtain ⟨o,es,ep,t,ho,hex,hd,_,_,_,hf,hn⟩:=hs;have I2:Inv X pins σ H1 { s1 with heap:=h2,toks:=tk }:=I1.kept fun b o e=>hk b o (Heap.lt_size e) e;have le:=Qx2 xs;refine call_len_set ho hex hd hf (by rw [hn]; omega) ⟨.int (ded xs).length,H1,I2.tok _,⟨_,by rw [hn]⟩,q1⟩
 rcases hq with hq | hq
 . obtain ⟨its,r,pl,hz⟩:=I1.list hq;obtain ⟨ol,ho,hcl,hd⟩:=pl.isList;have sz:its.toArray.size=xs.length:=by rw [List.size_toArray,<- r.length,Xq5]
   exact Qq9 (QN4 hcl hd) calm ho (by simpa using strsAre_of r) (by rw [sz]; unfold scanBound; omega) fin
 . obtain ⟨its,r,pl,hz⟩:=I1.tuple hq;have sz:its.toArray.size=xs.length:=by rw [List.size_toArray,<- r.length,Xq5]
   obtain ⟨ol,ho,hcl,hd⟩:=pl;exact Qq9 (QF6 hcl hd) calm ho (by simpa using strsAre_of r) (by rw [sz]; unfold scanBound; omega) fin
def S8:List D->Option (List (List Nat))
 | []=>some []
 | .str s::xs=>(S8 xs).map (s :: ·)
 | _=>none
def opLenSet:OpN:=fun zs h=>match zs with
 | [z]=>match P7 z h with
   | some xs=>match S8 xs with
     | some ss=>if ss.length<1000 then .ok (.d (.int (ded ss).length)) h else .bad
     | none=>.bad
   | none=>.bad
 | _=>.bad
theorem QW9 {α β:Type} [DecidableEq α] [DecidableEq β] {f:α->β} (hf:∀ a b,f a=f b->a=b) (xs:List α):ded (xs.map f)=(ded xs).map f:=by
 suffices H:∀ n,ded ((xs.take n).map f)=(ded (xs.take n)).map f from by
   have:=H xs.length
   rwa [List.take_length] at this
 intro n
 induction n with
 | zero=>simp [ded]
 | succ n ih =>
   by_cases h:n<xs.length
   . rw [<- List.take_append_getElem h,List.map_append,Qa7,Xr4,List.map_nil,Qa7,ih]
     by_cases c:xs[n]∈ded (xs.take n)
     . rw [if_pos c,if_pos (List.mem_map_of_mem c)]
     . rw [if_neg c,if_neg (fun z=>c (by
         obtain ⟨y,hy,e⟩:=List.mem_map.mp z;rw [<- hf _ _ e]
         exact hy)),List.map_append]
       rfl
   . rw [List.take_of_length_le (by omega)] at ih ⊢;exact ih
section
variable {g:G} {U:Addr->Prop} {H:Hp}
theorem C7:∀ {xs:List D} {ss:List (List Nat)} {vs:List V},S8 xs=some ss->RDs g U H xs vs->vs=(ss.map mkS).map V.str
 | [],ss,vs,e,r=>by
   cases e;exact rds_nil.mp r
 | .str s::xs,ss,vs,e,r=>by
   unfold S8 at e;cases k:S8 xs with
   | none=>rw [k] at e; cases e
   | some t =>
     rw [k] at e;cases e;obtain ⟨v,vs',rfl,r1,r2⟩:=rds_cons.mp r;rw [(rd_str.mp r1).1,C7 k r2];rfl
 | .non::xs,ss,vs,e,r=>by cases e
 | .bl _::xs,ss,vs,e,r=>by cases e
 | .int _::xs,ss,vs,e,r=>by cases e
 | .tup _::xs,ss,vs,e,r=>by cases e
 | .lst _::xs,ss,vs,e,r=>by cases e
 | .scr _::xs,ss,vs,e,r=>by cases e
 | .obj _ _::xs,ss,vs,e,r=>by cases e
 | .dic _ _::xs,ss,vs,e,r=>by cases e
 | .dit _ _::xs,ss,vs,e,r=>by cases e
 | .cls _::xs,ss,vs,e,r=>by cases e
end
end
section
variable {g:G} {F:Fr} {W:WX} {ρ:List Addr} {zσ:ZS} {zh:ZH} {σ:L2.St} {H:Hp} {fp:List Nat}
theorem uoSel (len:ρ.length=zh.length) (hlt:∀ i∈fp,i<zh.length) {a:Addr} (h:UO F (I9 fp ρ) (Qc3 fp zh) a):UO F ρ zh a:=by
 rcases h with h | ⟨k,o,h1,h2,h3⟩
 . exact .inl h
 . obtain ⟨i,e1,e2⟩:=W9 (fun i hi=>by rw [len]; exact hlt i hi) h1;rw [Qa2 e1] at h2;cases h2;rw [Qh9] at h3;have hi:=hlt i (Xq8 e1);have e3:zh.getD i .gone=zh[i]:=by simp [List.getD_eq_getElem?_getD,Xq6 hi]
   rw [e3] at h3;exact .inr ⟨i,_,e2,Xq6 hi,h3⟩
theorem RelH.sel (r:RelH g F ρ zh H) (nd:fp.Nodup) (hlt:∀ i∈fp,i<zh.length) (hcl:∀ i∈fp,∀ j∈M7 (zh.getD i .gone),j∈fp) :
   RelH g F (I9 fp ρ) (Qc3 fp zh) H/\Stb (UO F ρ zh) H (UO F (I9 fp ρ) (Qc3 fp zh)) H:=by
 have hltR:∀ i∈fp,i<ρ.length:=fun i hi=>by rw [r.len]; exact hlt i hi
 have st:Stb (UO F ρ zh) H (UO F (I9 fp ρ) (Qc3 fp zh)) H:=fun a o e nu=>⟨e,fun u=>nu (uoSel r.len hlt u)⟩;refine ⟨⟨by unfold I9 Qc3; simp,?_,fun k a o h1 h2=>?_,r.prot,fun a h q=>?_,fun a h=>?_,r.stb.trans st⟩,st⟩
 . refine List.pairwise_iff_getElem.mpr fun i j hi hj hij e=>?_;have ha:(I9 fp ρ)[j]? = some (I9 fp ρ)[j]:=Xq6 hj;have hb:(I9 fp ρ)[i]? = some (I9 fp ρ)[j]:=by rw [Xq6 hi,e]
   obtain ⟨i1,e1,e2⟩:=W9 hltR hb;obtain ⟨i2,e3,e4⟩:=W9 hltR ha
   have:i1=i2:=by
     obtain ⟨l1,x1⟩:=Xr0.mp e2;obtain ⟨l2,x2⟩:=Xr0.mp e4;exact (List.getElem_inj r.nd).mp (x1.trans x2.symm)
   subst this;obtain ⟨l1,x1⟩:=Xr0.mp e1;obtain ⟨l2,x2⟩:=Xr0.mp e3;have:=(List.getElem_inj nd).mp (x1.trans x2.symm);omega
 . obtain ⟨i,e1,e2⟩:=W9 hltR h1;rw [Qa2 e1] at h2;cases h2;have hm:=Xq8 e1;have hi:=hlt i hm;have e3:zh[i]? = some (zh.getD i .gone):=by simp [List.getD_eq_getElem?_getD,Xq6 hi]
   exact ren_o (RO.mono st (Xr5 _) rfl (r.own i a _ e2 e3)) (hcl i hm)
 . obtain ⟨k,hk⟩:=List.getElem?_of_mem h;obtain ⟨i,e1,e2⟩:=W9 hltR hk;exact r.notp a (Xq8 e2) q
 . obtain ⟨k,hk⟩:=List.getElem?_of_mem h;obtain ⟨i,e1,e2⟩:=W9 hltR hk;exact r.trk a (Xq8 e2)
end
def Qa8 (s:ZS):List Nat:=s.flatMap fun o=>match o with
 | some z=>K3 z
 | none=>[]
def QN5 (fp:List Nat) (s:ZS):ZS:=s.map (Option.map (Qk3 fp))
def QF8:ZH->List Nat:=fun h=>h.flatMap M7
def QX0 (n:Nat) (roots:List Nat) (h:ZH):List Nat:=P0 h 60 (QF8 (h.take n)++roots) (List.range n)
def QM0 (n:Nat) (roots:List Nat) (h:ZH) (fp:List Nat):Bool :=
 decide (fp.take n=List.range n) && roots.all (fun i=>fp.contains i) && fp.all (fun i=>decide (i<h.length) && (M7 (h.getD i .gone)).all fun j=>fp.contains j) && Qa0 fp
def gcS (n:Nat) (o:OutS):OutS:=match o with
 | .nx s h=>let fp:=QX0 n (Qa8 s) h; if QM0 n (Qa8 s) h fp=true then .nx (QN5 fp s) (Qc3 fp h) else .nx s h
 | .ct s h=>let fp:=QX0 n (Qa8 s) h; if QM0 n (Qa8 s) h fp=true then .ct (QN5 fp s) (Qc3 fp h) else .ct s h
 | .bk s h=>let fp:=QX0 n (Qa8 s) h; if QM0 n (Qa8 s) h fp=true then .bk (QN5 fp s) (Qc3 fp h) else .bk s h
 | .rt z h=>let fp:=QX0 n (K3 z) h; if QM0 n (K3 z) h fp=true then .rt (Qk3 fp z) (Qc3 fp h) else .rt z h
 | .exc x s h=>let fp:=QX0 n (Qa8 s) h; if QM0 n (Qa8 s) h fp=true then .exc x (QN5 fp s) (Qc3 fp h) else .exc x s h
 | .bad=>.bad
def wipeAll (is:List Nat) (s:ZS):ZS:=is.foldl (fun s i=>s.set i none) s
def wipeO (is:List Nat) (o:OutS):OutS:=match o with
 | .nx s h=>.nx (wipeAll is s) h
 | .ct s h=>.ct (wipeAll is s) h
 | .bk s h=>.bk (wipeAll is s) h
 | .exc x s h=>.exc x (wipeAll is s) h
 | o=>o
def O4 (is:List Nat) (d:DS):DS:=fun s h=>gcS h.length (wipeO is (d s h))
section
variable {g:G} {F:Fr} {W:WX} {ρ:List Addr} {zσ:ZS} {zh:ZH} {σ:L2.St} {H:Hp} {fp:List Nat} {X:Cx}
theorem Qc5 {n:Nat} {roots:List Nat} {h:ZH} (e:QM0 n roots h fp=true):fp.take n=List.range n/\(∀ i∈roots,i∈fp)/\(∀ i∈fp,i<h.length)/\(∀ i∈fp,∀ j∈M7 (h.getD i .gone),j∈fp)/\fp.Nodup:=by
 unfold QM0 at e;simp only [Bool.and_eq_true,decide_eq_true_eq,List.all_eq_true,List.contains_iff_mem] at e;obtain ⟨⟨⟨e1,e2⟩,e3⟩,e4⟩:=e;exact ⟨e1,e2,fun i hi=>(e3 i hi).1,fun i hi=>(e3 i hi).2,Qh8 e4⟩
theorem QX1 {ρ ρ':List Addr} (p:ρ<+:ρ') (e:fp.take ρ.length=List.range ρ.length):ρ<+:I9 fp ρ':=by
 obtain ⟨t,rfl⟩:=p
 have e2:I9 fp (ρ++t)=I9 (fp.take ρ.length) (ρ++t)++I9 (fp.drop ρ.length) (ρ++t):=by
   unfold I9;rw [<- List.map_append,List.take_append_drop]
 rw [e2,e]
 have e3:I9 (List.range ρ.length) (ρ++t)=ρ:=by
   unfold I9;refine List.ext_getElem (by simp) fun i h1 h2=>?_;simp [List.getD_eq_getElem?_getD,Xr2 h2,h2]
 rw [e3];exact List.prefix_append _ _
theorem Ext.sel {ρ':List Addr} {zh':ZH} {H':Hp} (r:RelH g F ρ zh H) (e:Ext F ρ zh H ρ' zh' H') (r':RelH g F ρ' zh' H') {roots:List Nat} (k:QM0 zh.length roots zh' fp=true) :
   RelH g F (I9 fp ρ') (Qc3 fp zh') H'/\Ext F ρ zh H (I9 fp ρ') (Qc3 fp zh') H'/\Stb (UO F ρ' zh') H' (UO F (I9 fp ρ') (Qc3 fp zh')) H':=by
 obtain ⟨k1,_,k3,k4,k5⟩:=Qc5 k;obtain ⟨a,b⟩:=r'.sel k5 k3 k4;refine ⟨a,⟨QX1 e.pre (by rw [r.len]; exact k1),e.stb.trans b,e.trk,fun x h=>?_⟩,b⟩;obtain ⟨j,hj⟩:=List.getElem?_of_mem h;obtain ⟨i,_,e2⟩:=W9 (fun i hi=>by rw [r'.len]; exact k3 i hi) hj;exact e.fresh x (Xq8 e2)
theorem RelS.ren {U:Addr->Prop} {s:ZS} (r:RelS g U H ρ s σ) (h:∀ i∈Qa8 s,i∈fp):RelS g U H (I9 fp ρ) (QN5 fp s) σ:=by
 refine ⟨by unfold QN5; rw [Xq5]; exact r.1,fun i z e=>?_⟩;unfold QN5 at e;rw [Xq7] at e;cases q:s[i]? with
 | none=>rw [q] at e; cases e
 | some o =>
   cases o with
   | none=>rw [q] at e; cases e
   | some z0 =>
     rw [q] at e;cases e;obtain ⟨v,h1,h2⟩:=r.2 i z0 q;refine ⟨v,h1,QV3 h2 fun j hj=>h j ?_⟩;unfold Qa8;exact List.mem_flatMap.mpr ⟨some z0,Xq8 q,hj⟩
theorem RelS.mono' {U U':Addr->Prop} {s:ZS} (r:RelS g U H ρ s σ) (st:Stb U H U' H):RelS g U' H ρ s σ :=
 ⟨r.1,fun i z e=>let ⟨v,h1,h2⟩:=r.2 i z e; ⟨v,h1,RZ.mono st (Xr5 _) h2⟩⟩
theorem RX.mono' {U U':Addr->Prop} {x:ZX} {cls:Value} {dx:Option Addr} (st:Stb U H U' H) (h:RX g U H x cls dx):RX g U' H x cls dx:=by
 obtain ⟨e,hX,h⟩:=h;refine ⟨e,hX,?_⟩;rcases h with h | ⟨n,d,fvs,e1,nu,e2,k,q⟩
 . exact .inl h
 . exact .inr ⟨n,d,fvs,e1,(st d _ e2 nu).2,e2,k,RDs.mono st _ _ q⟩
theorem gcS_ok {o:OutS} {D:Ends} (r:RelH g F ρ zh H) (p:PostS g F W ρ zh H (gcS zh.length o) D):PostS g F W ρ zh H o D:=by
 cases o with
 | bad=>exact p
 | nx s h =>
   unfold gcS at p;dsimp only at p
   split at p
   . rename_i k;intro ρ' σ' H' e r' s';obtain ⟨a,b,c⟩:=Ext.sel r e r' k;exact p _ _ _ b a ((s'.mono' c).ren (Qc5 k).2.1)
   . exact p
 | ct s h =>
   unfold gcS at p;dsimp only at p
   split at p
   . rename_i k;intro ρ' σ' H' e r' s';obtain ⟨a,b,c⟩:=Ext.sel r e r' k;exact p _ _ _ b a ((s'.mono' c).ren (Qc5 k).2.1)
   . exact p
 | bk s h =>
   unfold gcS at p;dsimp only at p
   split at p
   . rename_i k;intro ρ' σ' H' e r' s';obtain ⟨a,b,c⟩:=Ext.sel r e r' k;exact p _ _ _ b a ((s'.mono' c).ren (Qc5 k).2.1)
   . exact p
 | rt z h =>
   unfold gcS at p;dsimp only at p
   split at p
   . rename_i k;intro ρ' v H' e r' s';obtain ⟨a,b,c⟩:=Ext.sel r e r' k;exact p _ _ _ b a (QV3 (RZ.mono c (Xr5 _) s') (Qc5 k).2.1)
   . exact p
 | exc x s h =>
   unfold gcS at p;dsimp only at p
   split at p
   . rename_i k;intro ρ' σ' cls dx H' e r' s' rx;obtain ⟨a,b,c⟩:=Ext.sel r e r' k;exact p _ _ _ _ _ b a ((s'.mono' c).ren (Qc5 k).2.1) (rx.mono' c)
   . exact p
theorem RelS.wipe1 {U:Addr->Prop} {s:ZS} (r:RelS g U H ρ s σ) (i:Nat):RelS g U H ρ (s.set i none) σ :=
 ⟨by rw [List.length_set]; exact r.1,fun j z e=>by
   by_cases h:i=j
   . subst h
     by_cases hl:i<s.length
     . rw [Xr3 hl] at e; cases e
     . rw [List.getElem?_eq_none (by rw [List.length_set]; omega)] at e; cases e
   . rw [List.getElem?_set_ne h] at e
     exact r.2 j z e⟩
theorem RelS.wipeAll {U:Addr->Prop}:∀ (is:List Nat) {s:ZS},RelS g U H ρ s σ->RelS g U H ρ (Zl.wipeAll is s) σ
 | [],_,r=>r
 | i::is,s,r=>RelS.wipeAll is (r.wipe1 i)
theorem QN6 {o:OutS} {D:Ends} (is:List Nat) (p:PostS g F W ρ zh H (wipeO is o) D):PostS g F W ρ zh H o D:=by
 cases o with
 | bad=>exact p
 | rt z h=>exact p
 | nx s h=>exact fun ρ' σ' H' e r' s'=>p _ _ _ e r' (s'.wipeAll is)
 | ct s h=>exact fun ρ' σ' H' e r' s'=>p _ _ _ e r' (s'.wipeAll is)
 | bk s h=>exact fun ρ' σ' H' e r' s'=>p _ _ _ e r' (s'.wipeAll is)
 | exc x s h=>exact fun ρ' σ' cls dx H' e r' s' rx=>p _ _ _ _ _ e r' (s'.wipeAll is) rx
theorem Y0 {st:List Stmt} {d:DS} (is:List Nat) (h:ZSs g F X W st d):ZSs g F X W st (O4 is d):=by
 refine PSs.imp h fun D σ H=>?_;rintro ⟨ρ,zσ,zh,r,s,p⟩;exact ⟨ρ,zσ,zh,r,s,QN6 is (gcS_ok r p)⟩
end
section
variable {g:G} {F:Fr} {X:Cx} {W:WX} {a b c e o value:Expr} {es:List Expr} {da db dc:DE} {pos pos' apos cpos p p2:Pos} {d:DA} {st:Stmt} {sts:List Stmt}
theorem QF9 {x:Str} (i:Int) (hg:Gl X x) (h:∃ u,X.mg x=some u/\RelV (.int i) u) (hd:(x == ("__debug__" : Str))=false:=by decide):ZE g F X W (.Name x pos) (dC (.int i)):=by
 obtain ⟨u,h1,h2⟩:=h;exact PE.imp (pe_glob hg h1 h2 hd) fun σ H Q ⟨ρ,zσ,zh,RH,RS,p⟩=>Post.done RH p (rz_int.mpr rfl)
theorem z_gstr {x:Str} (t:List Nat) (hg:Gl X x) (h:∃ u,X.mg x=some u/\RelV (.str (mkS t)) u) (ok:sOkB t=true:=by decide +kernel) (hd:(x == ("__debug__" : Str))=false:=by decide):ZE g F X W (.Name x pos) (dC (.str t)):=by
 obtain ⟨u,h1,h2⟩:=h;exact PE.imp (pe_glob hg h1 h2 hd) fun σ H Q ⟨ρ,zσ,zh,RH,RS,p⟩=>Post.done RH p (rz_str.mpr ⟨rfl,.of ok⟩)
theorem QA1:QL9 g (fun vs H Q=>∃ x l,∃ xs:List Str,vs=[x]/\x = .ref l/\(SqL g.K H l (xs.map V.str)\/SqT g.K H l (xs.map V.str))/\xs.length<1000/\Q (.int (ded xs).length) H) opLenSet:=by
 intro F W ρ zσ zh σ H zs vs Q RH rz p;unfold opLenSet at p
 split at p
 . obtain ⟨v,rfl,q⟩:=Z9 rz
   split at p
   . rename_i xs hx
     split at p
     . rename_i ss hs
       split at p
       . rename_i hl;obtain ⟨a,us,rfl,hq,hr⟩:=Qf8 RH q hx;rw [C7 hs hr] at hq;refine ⟨_,a,ss.map mkS,rfl,rfl,hq,by simpa using hl,?_⟩;rw [QW9 (fun _ _=>Qt2),Xq5];exact Post.done RH p (rz_int.mpr rfl)
       . exact p.elim
     . exact p.elim
   . exact p.elim
 . exact p.elim
theorem QN7 {q:Pos} (hK:X.K=g.K) (hc:X.calm=true) (hg:Gl X "len") (hm:X.mg "len" = none) (hg2:Gl X "set") (hm2:X.mg "set" = none) (ha:ZE g F X W a da)
   (na:starEach [a] X.env=(false,eval a X.env)::starEach [] X.env:=by rfl):ZE g F X W (.Call (.Name "len" p) [.Call (.Name "set" p2) [a] [] q] [] pos) (Y2 opLenSet (Q4 da dNil)):=by
 refine PE.imp (QF7 hc hg hm hg2 hm2 ha na) fun σ H Q ⟨ρ,zσ,zh,RH,RS,p⟩=>?_;refine ⟨ρ,zσ,zh,RH,RS,?_⟩;have p:Post g F W ρ zσ zh σ H ((Q4 da dNil zσ zh).bnd fun zs h=>opLenSet zs h) Q:=p
 have e:(Q4 da dNil zσ zh).bnd (fun zs h=>opLenSet zs h)=(da zσ zh).bnd fun z h=>opLenSet [z] h:=by
   unfold Q4 dNil;cases da zσ zh <;> rfl
 rw [e] at p;refine Post.bnd p fun ρ1 z zh1 v H1 e1 R1 rz p1=>?_;obtain ⟨x,l,xs,hv,hx,h1,h2,h3⟩:=QA1 R1 (zs:=[z]) (vs:=[v]) ⟨v,[],rfl,rz,rfl⟩ p1;cases hv;rw [hK];exact ⟨l,xs,hx,h1,h2,h3⟩
def QM1 (x:D) (y:D):Option Bool:=match x.py,y.py with
 | some p,some (.list ps)=>if p.depth<=64/\(PyData.list ps).depth<=64 then some (ps.any fun z=>PyData.eqv z p) else none
 | some p,some (.tuple ps)=>if p.depth<=64/\(PyData.tuple ps).depth<=64 then some (ps.any fun z=>PyData.eqv z p) else none
 | _,_=>none
def QC0 (neg:Bool):Op2:=fun x y h=>match y with
 | .d (.str t)=>match x with
   | .d (.str [c])=>.ok (.d (.bl (if neg then !decide (c∈t) else decide (c∈t)))) h
   | _=>.bad
 | y => match N5 x h,N5 y h with
   | some p,some q=>match QM1 p q with
     | some k=>.ok (.d (.bl (if neg then !k else k))) h
     | none=>.bad
   | _,_=>.bad
def QG0 (K:UZ9) (neg:Bool):R2:=fun x y H Q =>
 (∃ (c:Nat) (z:Str),x = .str ⟨#[c]⟩/\y = .str z/\Q (.bl (if neg then !decide (c∈z.cps.toList) else decide (c∈z.cps.toList))) H) \/
 ∃ d ds e,Dp K H x d/\Dp K H y e/\(e = .list ds\/e = .tuple ds)/\SeqAt.shaped d=true/\SeqAt.shaped e=true/\Q (.bl (if neg then !ds.any (fun z=>PyData.eqv z d) else ds.any fun z=>PyData.eqv z d)) H
theorem QN8 (hu:X.A.units+65<cLine):OpR X (compareOp .In) (QG0 X.K false):=by
 intro pins s σ H x y v u Q I rx ry h;rcases h with ⟨c,z,h1,h2,q⟩ | ⟨d,ds,e,hd,he,hk,sd,se,q⟩
 . exact op_in_sign pins s σ H x y v u Q I rx ry ⟨c,z,h1,h2,q⟩
 . obtain ⟨as,r1⟩:=Dp.reads I d x v hd rx;obtain ⟨bs,r2⟩:=Dp.reads I e y u he ry;rcases hk with rfl | rfl
   . exact SeqAt.in_list_reads r2 r1 (SeqAt.canLay_of_shaped se) (SeqAt.canLay_of_shaped sd) (room_in_shaped sd hu) ⟨.bl _,H,I,rfl,q⟩
   . exact SeqAt.in_tuple_reads r2 r1 (SeqAt.canLay_of_shaped se) (SeqAt.canLay_of_shaped sd) (room_in_shaped sd hu) ⟨.bl _,H,I,rfl,q⟩
theorem Qu4 (hu:X.A.units+65<cLine):OpR X (compareOp .NotIn) (QG0 X.K true):=by
 intro pins s σ H x y v u Q I rx ry h;rcases h with ⟨c,z,h1,h2,q⟩ | ⟨d,ds,e,hd,he,hk,sd,se,q⟩
 . exact op_notIn_sign pins s σ H x y v u Q I rx ry ⟨c,z,h1,h2,q⟩
 . obtain ⟨as,r1⟩:=Dp.reads I d x v hd rx;obtain ⟨bs,r2⟩:=Dp.reads I e y u he ry;rcases hk with rfl | rfl
   . exact SeqAt.notIn_list_reads r2 r1 (SeqAt.canLay_of_shaped se) (SeqAt.canLay_of_shaped sd) (room_in_shaped sd hu) ⟨.bl _,H,I,rfl,q⟩
   . exact SeqAt.notIn_tuple_reads r2 r1 (SeqAt.canLay_of_shaped se) (SeqAt.canLay_of_shaped sd) (room_in_shaped sd hu) ⟨.bl _,H,I,rfl,q⟩
theorem Qr0 {neg:Bool}:LowR2 g (QG0 g.K neg) (QC0 neg):=by
 intro F W ρ zσ zh σ H zx zy x y Q RH rx ry p;unfold QC0 at p
 split at p
 . rename_i t
   split at p
   . rename_i cc;obtain ⟨e1,_⟩:=rz_str.mp rx;obtain ⟨e2,_⟩:=rz_str.mp ry;subst e1; subst e2;exact .inl ⟨cc,mkS t,rfl,rfl,Post.done RH p (rz_bl.mpr rfl)⟩
   . exact p.elim
 . cases hx : N5 zx zh with
   | none=>simp only [hx] at p; exact p.elim
   | some d =>
     cases hy:N5 zy zh with
     | none=>simp only [hx,hy] at p; exact p.elim
     | some e =>
       simp only [hx,hy] at p;cases k:QM1 d e with
       | none=>simp only [k] at p; exact p.elim
       | some kk =>
         simp only [k] at p;unfold QM1 at k;cases px:d.py with
         | none=>simp only [px] at k; cases k
         | some dp =>
           cases py:e.py with
           | none=>simp only [px,py] at k; cases k
           | some ep =>
             obtain ⟨k1,k2⟩:=Qg0 RH rx hx px;obtain ⟨k3,k4⟩:=Qg0 RH ry hy py;rw [px,py] at k;cases ep with
             | list ps =>
               simp only at k
               split at k
               . rename_i hd;cases k;exact .inr ⟨dp,ps,_,k1,k3,.inl rfl,P8 k2 hd.1,P8 k4 hd.2,Post.done RH p (rz_bl.mpr rfl)⟩
               . cases k
             | tuple ps =>
               simp only at k
               split at k
               . rename_i hd;cases k;exact .inr ⟨dp,ps,_,k1,k3,.inr rfl,P8 k2 hd.1,P8 k4 hd.2,Post.done RH p (rz_bl.mpr rfl)⟩
               . cases k
             | _=>cases k
theorem QR8 {k:Nat} {A:Around} (hr:Room k A):A.units+65<cLine:=by
 have:=hr.un;omega
theorem z_in {k:Nat} (hK:X.K=g.K) (hr:Room k X.A) (ha:ZE g F X W a da) (hb:ZE g F X W b db)
 (hm:behindInMarks .In b=false:=by first | exact nomark _ (by decide) (by decide) | rfl):ZE g F X W (.Compare a [.In] [b] pos) (Y1 (QC0 false) da db):=z_cmp (QN8 (QR8 hr)) (by rw [hK]; exact Qr0) ha hb hm
theorem Qn8 {k:Nat} (hK:X.K=g.K) (hr:Room k X.A) (ha:ZE g F X W a da) (hb:ZE g F X W b db)
 (hm:behindInMarks .NotIn b=false:=by first | exact nomark _ (by decide) (by decide) | rfl):ZT g F X W (.Compare a [.NotIn] [b] pos) (V9 (QC0 true) da db):=Qh7 (Qu4 (QR8 hr)) (by rw [hK]; exact Qr0) ha hb hm
end
open TL (tl tl_mk mk_tl joinL tl_join join_eq spl map_tl_inj split_spl kind_ok)
section
variable {g:G} {F:Fr} {X:Cx} {W:WX} {a b c e o value:Expr} {es:List Expr} {da db dc:DE} {pos pos' apos cpos p p2:Pos} {d:DA} {st:Stmt} {sts:List Stmt}
def T8:List D->Option (List Bool)
 | []=>some []
 | .bl b::xs=>(T8 xs).map (b :: ·)
 | _=>none
theorem Qi2 {U:Addr->Prop} {H:Hp}:∀ {xs:List D} {bs:List Bool} {vs:List V},T8 xs=some bs->RDs g U H xs vs->vs=bs.map V.bl
 | [],bs,vs,e,r=>by
   cases e;exact rds_nil.mp r
 | .bl s::xs,ss,vs,e,r=>by
   unfold T8 at e;cases k:T8 xs with
   | none=>rw [k] at e; cases e
   | some t =>
     rw [k] at e;cases e;obtain ⟨v,vs',rfl,r1,r2⟩:=rds_cons.mp r;rw [rd_bl.mp r1,Qi2 k r2];rfl
 | .non::xs,ss,vs,e,r=>by cases e
 | .str _::xs,ss,vs,e,r=>by cases e
 | .int _::xs,ss,vs,e,r=>by cases e
 | .tup _::xs,ss,vs,e,r=>by cases e
 | .lst _::xs,ss,vs,e,r=>by cases e
 | .scr _::xs,ss,vs,e,r=>by cases e
 | .obj _ _::xs,ss,vs,e,r=>by cases e
 | .dic _ _::xs,ss,vs,e,r=>by cases e
 | .dit _ _::xs,ss,vs,e,r=>by cases e
 | .cls _::xs,ss,vs,e,r=>by cases e
def opAll:OpN:=fun zs h=>match zs with
 | [z]=>match B5 z h with
   | some xs=>match T8 xs with
     | some bs=>.ok (.d (.bl (bs.all id))) h
     | none=>.bad
   | none=>.bad
 | _=>.bad
theorem QX2:QL9 g (rAll g.K) opAll:=by
 intro F W ρ zσ zh σ H zs vs Q RH rz p;unfold opAll at p
 split at p
 . obtain ⟨v,rfl,q⟩:=Z9 rz
   split at p
   . rename_i xs hx
     split at p
     . rename_i bs hb;obtain ⟨a,us,rfl,hq,hr⟩:=O9 RH q hx;rw [Qi2 hb hr] at hq;exact ⟨a,bs,rfl,SqL.of hq,Post.done RH p (rz_bl.mpr rfl)⟩
     . exact p.elim
   . exact p.elim
 . exact p.elim
theorem QR9 (hK:X.K=g.K) (hc:X.calm=true) (hm:X.mg "all" = none) (ha:ZA g F X W [e] d) (hg:Gl X "all" := by rfl) (he:starEach [e] X.env=(false,eval e X.env)::starEach [] X.env:=by rfl):ZE g F X W (.Call (.Name "all" p) [e] [] pos) (Y2 opAll d) :=
 Qt7 (cr_all hc) (by rw [hK]; exact QX2) hg hm (by decide +kernel) ha (by decide) (by decide) he (by rfl)
end
end Zl
end
section
namespace Zl
open PySem PySem.Spec PyProof.Rows L2
open TL (tl tl_mk mk_tl tl_append)
section
variable {g:G} {F:Fr} {X:Cx} {W:WX} {a b c e o value:Expr} {es:List Expr} {da db dc:DE} {pos pos' apos cpos p p2:Pos} {d:DA} {st:Stmt} {sts:List Stmt}
inductive ZJ (g:G) (F:Fr) (X:Cx) (W:WX):List Expr->List DE->Prop where
 | nil:ZJ g F X W [] []
 | cons {e:Expr} {d:DE} {es:List Expr} {ds:List DE} (h:ZE g F X W e d) (r:ZJ g F X W es ds):ZJ g F X W (e::es) (d::ds)
structure ClsTy (K:UZ9) (C:Addr):Prop where
 ha:PySem.W.findIn K (.ref C) "__class__" = some (some (.builtin "object.__class__"))
 hn:PySem.W.specialIn K (.builtin "object.__class__") "__get__" = some (some (.builtin "getset_descriptor.__get__"))
 ht:PySem.W.takesIn K (.builtin "object.__class__")=some true
 hm:PySem.W.mroIn K C (.type "object")=some true
end
end Zl
end
section
namespace Zl
open PySem PySem.Spec PyProof.Rows L2
section
variable {g:G} {F:Fr} {X:Cx} {W:WX} {a b c e o value:Expr} {es:List Expr} {da db dc:DE} {pos pos' apos cpos p p2:Pos} {d:DA} {st:Stmt} {sts:List Stmt}
structure CfT (P:Program) (w:World) (K:UZ9) (mg:Str->Option Value) (base:Heap) (g:G) (k:Nat) (C:Addr) (m:Str) (M:Sem):Prop where
 ex:∃ mc f fd ps,ClX.CRead K C mc/\PySem.W.findCls K (.ref C) mc m=some (.val (.ref f))/\FnT P w K mg base g k f fd ps M
theorem CfT.mono {P:Program} {w:World} {K:UZ9} {mg:Str->Option Value} {base:Heap} {g:G} {k k':Nat} {C:Addr} {m:Str} {M:Sem} (h:CfT P w K mg base g k C m M) (l:k<=k'):CfT P w K mg base g k' C m M :=
 let ⟨mc,f,fd,ps,a,b,c⟩:=h.ex
 ⟨mc,f,fd,ps,a,b,c.mono l⟩
theorem MethE.mono {P:Program} {w:World} {K:UZ9} {mg:Str->Option Value} {base:Heap} {g:G} {k k':Nat} {m:Str} {mt:Nat->Option Sem} (h:MethE P w K mg base g k m mt) (l:k<=k'):MethE P w K mg base g k' m mt:=fun c M h1 h2 =>
 let ⟨f,fd,ps,a,b,c⟩:=h c M h1 h2
 ⟨f,fd,ps,a,b.mono l,c⟩
end
section
variable {prog:Program} {w:World} {A:Around} {E:Value->Shared->Prop} {s:Shared} {l:Addr} {items:Array Value}
end
inductive PatI where
 | lit (s:List Nat) | cap (i:Nat)
section
variable {X:Cx} {pins:List (Addr × Obj)} {σ:L2.St} {H:Hp} {s:Shared}
inductive PatOk (X:Cx):Pattern->PatI->Prop where
 | lit {t:Str} {s:List Nat} {j:Nat} {pos pos':Pos} (h:t=mkS s):PatOk X (.MatchValue (.Constant (.str t) j pos) pos') (.lit s)
 | cap {n:Str} {i:Nat} {pos:Pos} (hi:X.N[i]? = some n) (hx:Loc X.env.scope n) (hf:X.fn n=true\/X.env.scope.names.lookup n=some .local):PatOk X (.MatchAs none (some n) pos) (.cap i)
structure Bnd1 (X:Cx) (c:Nat × V) (b:Str × Value):Prop where
 hi:X.N[c.1]? = some b.1
 hx:Loc X.env.scope b.1
 hf:X.fn b.1=true\/X.env.scope.names.lookup b.1=some .local
 rv:RelV c.2 b.2
end
structure PatR where
 items:List PatI
 star:Option Nat
section
variable {g:G} {F:Fr} {X:Cx} {W:WX} {pins:List (Addr × Obj)} {σ:L2.St} {H:Hp} {s:Shared} {e:Expr} {de:DE} {pos:Pos}
inductive RowOk (X:Cx):List Pattern->PatR->Prop where
 | plain {ps:List Pattern} {is:List PatI} (h:Paired (PatOk X) ps is) (ne:is≠[]):RowOk X ps ⟨is,none⟩
 | star {ps:List Pattern} {is:List PatI} {n:Str} {j:Nat} {pos:Pos} (h:Paired (PatOk X) ps is) (ne:is≠[]) (hi:X.N[j]? = some n) (hx:Loc X.env.scope n) (hf:X.fn n=true\/X.env.scope.names.lookup n=some .local):RowOk X (ps++[.MatchStar (some n) pos]) ⟨is,some j⟩
inductive CasesOk (g:G) (F:Fr) (X:Cx) (W:WX):List MatchCase->List (PatR × DS)->Prop where
 | nil:CasesOk g F X W [] []
 | cons {ps:List Pattern} {p:PatR} {pos:Pos} {body:List Stmt} {d:DS} {ms:List MatchCase} {cs:List (PatR × DS)} (h:RowOk X ps p) (hb:ZSs g F X W body d) (r:CasesOk g F X W ms cs):CasesOk g F X W (⟨.MatchSequence ps pos,none,body⟩::ms) ((p,d)::cs)
end
section
variable {g:G} {F:Fr} {X:Cx} {W:WX} {e:Expr} {pos pos' px py:Pos} {kk:Nat}
end
open AutoSeq1 (wpAny_loadPart')
end Zl
end
section
namespace Zl
open PySem PySem.Spec PyProof.Rows L2
section
variable {prog:Program} {w:World} {A:Around} {E:Value->Shared->Prop} {s:Shared}
end
section
variable {M:Model} {A:Around} {E:Value->Shared->Prop} {s:Shared} {env:Env}
end
section
variable {g:G} {F:Fr} {X:Cx} {W:WX} {e ke:Expr} {da dk:DE} {pos pos' px py:Pos} {kk:Nat}
def Qu5 (i j:Nat):DG:=fun z s h=>match z with
 | .d (.tup [x,y])=>.nx ((s.set i (some (.d x))).set j (some (.d y))) h
 | _=>.bad
theorem Qx3 {i j:Nat}:GOk (Qu5 i j):=fun z s h=>by
 unfold Qu5;refine ⟨fun z' h' q=>?_,fun z' h' q=>?_,fun z' h' q=>?_⟩ <;> (split at q <;> cases q)
theorem QG1 {x y:Str} (i j:Nat) (hK:X.K=g.K) (hc:X.calm=true) (hN:X.N.Nodup) (hi:X.N[i]? = some x:=by rfl) (hj:X.N[j]? = some y:=by rfl) (hx:Loc X.env.scope x:=by first | exact Or.inl rfl | exact Or.inr rfl) (hy:Loc X.env.scope y:=by first | exact Or.inl rfl | exact Or.inr rfl)
   (hfx:X.fn x=true\/X.env.scope.names.lookup x=some .local:=by first | exact .inl rfl | exact .inr rfl) (hfy:X.fn y=true\/X.env.scope.names.lookup y=some .local:=by first | exact .inl rfl | exact .inr rfl) :
   ZG g F X W (.Tuple [.Name x px,.Name y py] kk pos) (Qu5 i j):=by
 refine PG.imp (pg_tup hc (pgs_cons (pg_name hN hi hx hfx) (pgs_cons (pg_name hN hj hy hfy) pgs_nil))) fun v σ H Q ⟨ρ,zσ,zh,z,RH,RS,rz,p⟩=>?_;unfold Qu5 at p
 split at p
 . rename_i x1 y1;obtain ⟨a,vs,rfl,nu,q,r⟩:=rd_tup.mp rz;obtain ⟨v1,vr,rfl,r1,r⟩:=rds_cons.mp r;obtain ⟨v2,vr,rfl,r2,r⟩:=rds_cons.mp r;obtain rfl:=rds_nil.mp r;exact ⟨a,_,rfl,.inl q,rfl,v1,_,rfl,v2,_,rfl,rfl,p ρ _ H Ext.refl RH ((RS.set (z:=.d x1) r1).set (z:=.d y1) r2)⟩
 . exact p.elim
end
section
variable {g:G} {F:Fr} {X:Cx} {W:WX} {e:Expr} {es:List Expr} {da:DE} {dr:DA} {p:Pos}
end
theorem Qu6 {K:UZ9} {h:Heap} {mg:Str->Option Value} (X:K.In h) (G:h.Ns mainGlobals mg) {x:Str} {i:Int} (c:(He.Fa.int x i).ok K=true):∃ u,mg x=some u/\RelV (.int i) u :=
 let ⟨t,e⟩:=He.int_ok X G c
 ⟨_,e,⟨t,rfl⟩⟩
theorem QX3 {K:UZ9} {h:Heap} {mg:Str->Option Value} (X:K.In h) (G:h.Ns mainGlobals mg) {x z:Str} (c:(He.Fa.str x z).ok K=true):∃ u,mg x=some u/\RelV (.str z) u :=
 let ⟨t,e⟩:=He.str_ok X G c
 ⟨_,e,⟨t,rfl⟩⟩
inductive Tag {A B:Sort _} (a:A) (b:B):Type where | mk
@[irreducible] def Out.wp {α:Type} (o:Out α) (Q:α->ZH->Prop) (E:ZX->ZH->Prop) (_t:Tag Q E:=.mk):Prop:=match o with
 | .ok a h=>Q a h
 | .exc x h=>E x h
 | .bad=>False
structure KS where
 nx:ZS->ZH->Prop:=fun _ _=>False
 rt:Z->ZH->Prop:=fun _ _=>False
 bk:ZS->ZH->Prop:=fun _ _=>False
 ct:ZS->ZH->Prop:=fun _ _=>False
 ex:ZX->ZS->ZH->Prop:=fun _ _ _=>False
@[irreducible] def OutS.wp (o:OutS) (K:KS) (_t:Tag K K:=.mk):Prop:=match o with
 | .nx s h=>K.nx s h
 | .rt z h=>K.rt z h
 | .bk s h=>K.bk s h
 | .ct s h=>K.ct s h
 | .exc x s h=>K.ex x s h
 | .bad=>False
@[irreducible] def S9 {α:Type} (o:Option α) (Q:α->Prop) (_t:Tag Q Q:=.mk):Prop:=match o with
 | some a=>Q a
 | none=>False
theorem optP_some {α:Type} {a:α} {Q:α->Prop}:S9 (some a) Q=Q a:=by with_unfolding_all exact (id rfl)
theorem optP_none {α:Type} {Q:α->Prop}:S9 (none:Option α) Q=False:=by with_unfolding_all exact (id rfl)
def Qr1 (i:Nat) (s:ZS):Option Z:=match s[i]? with
 | some o=>o
 | none=>none
def zBl:Z->Option Bool
 | .d (.bl b)=>some b
 | _=>none
def zInt:Z->Option Int
 | .d (.int b)=>some b
 | _=>none
theorem zBl_bl {b:Bool}:zBl (.d (.bl b))=some b:=id rfl
theorem zInt_int {b:Int}:zInt (.d (.int b))=some b:=id rfl
theorem slotZ_0 {z:Z} {s:ZS}:Qr1 0 (some z::s)=some z:=id rfl
theorem slotZ_s {o:Option Z} {s:ZS} {i:Nat}:Qr1 (i+1) (o::s)=Qr1 i s:=by
 unfold Qr1;rw [List.getElem?_cons_succ]
section
variable {α β:Type} {Q:α->ZH->Prop} {Qb:β->ZH->Prop} {E:ZX->ZH->Prop} {K:KS} {s:ZS} {h:ZH}
theorem Y5 {o:Out α} {Q':α->ZH->Prop} (e:∀ a h,Q a h=Q' a h):o.wp Q E=o.wp Q' E:=by
 with_unfolding_all
   have:Q=Q':=by funext a h; exact e a h
   subst this;rfl
theorem wp_ok {a:α}:(Out.ok a h).wp Q E=Q a h:=by with_unfolding_all exact (id rfl)
theorem wp_exc {x:ZX}:(Out.exc x h:Out α).wp Q E=E x h:=by with_unfolding_all exact (id rfl)
theorem wp_bad:(Out.bad:Out α).wp Q E=False:=by with_unfolding_all exact (id rfl)
theorem wp_bnd {o:Out α} {f:α->ZH->Out β}:(o.bnd f).wp Qb E=o.wp (fun a h1=>(f a h1).wp Qb E) E:=by with_unfolding_all
 cases o <;> rfl
theorem wp_bndS {o:Out α} {f:α->ZH->OutS}:(o.bndS s f).wp K=o.wp (fun a h1=>(f a h1).wp K) (fun x h1=>K.ex x s h1):=by with_unfolding_all
 cases o <;> rfl
theorem wps_bnd {o:OutS} {f:ZS->ZH->OutS}:(o.bnd f).wp K=o.wp ⟨fun s h=>(f s h).wp K,K.rt,K.bk,K.ct,K.ex⟩:=by with_unfolding_all
 cases o <;> rfl
theorem wps_nx:(OutS.nx s h).wp K=K.nx s h:=by with_unfolding_all exact (id rfl)
theorem wps_rt {z:Z}:(OutS.rt z h).wp K=K.rt z h:=by with_unfolding_all exact (id rfl)
theorem wps_bk:(OutS.bk s h).wp K=K.bk s h:=by with_unfolding_all exact (id rfl)
theorem wps_ct:(OutS.ct s h).wp K=K.ct s h:=by with_unfolding_all exact (id rfl)
theorem wps_exc {x:ZX}:(OutS.exc x s h).wp K=K.ex x s h:=by with_unfolding_all exact (id rfl)
theorem wps_bad:OutS.bad.wp K=False:=by with_unfolding_all exact (id rfl)
theorem wp_iteb {c:Prop} [Decidable c] {o:Out α}:(if c then o else Out.bad).wp Q E=(c/\o.wp Q E):=by
 with_unfolding_all
   by_cases k:c
   . rw [if_pos k]; simp [k]
   . rw [if_neg k]; simp [k,wp_bad]
theorem Out.wp_mono {o:Out α} {Q':α->ZH->Prop} {E':ZX->ZH->Prop} (w:o.wp Q E) (q:∀ a h,Q a h->Q' a h) (e:∀ x h,E x h->E' x h):o.wp Q' E':=by
 with_unfolding_all
   cases o with
   | ok a h=>exact q a h w
   | exc x h=>exact e x h w
   | bad=>exact w
theorem OutS.wp_mono {o:OutS} {K':KS} (w:o.wp K) (n:∀ s h,K.nx s h->K'.nx s h) (r:∀ z h,K.rt z h->K'.rt z h) (b:∀ s h,K.bk s h->K'.bk s h) (c:∀ s h,K.ct s h->K'.ct s h) (e:∀ x s h,K.ex x s h->K'.ex x s h):o.wp K':=by
 with_unfolding_all
   cases o with
   | nx s h=>exact n s h w
   | rt s h=>exact r s h w
   | bk s h=>exact b s h w
   | ct s h=>exact c s h w
   | exc x s h=>exact e x s h w
   | bad=>exact w
theorem Qu7 {o:Out α} {a:α} (e:o = .ok a h) (q:Q a h):o.wp Q E:=by with_unfolding_all
 rw [e]; exact q
theorem K5 {o:Out α} {a:α} (w:o.wp (fun b h1=>b=a/\h1=h) (fun _ _=>False)):o = .ok a h:=by
 with_unfolding_all
   cases o with
   | ok b h1=>exact (show b=a/\h1=h from w).elim fun e1 e2=>by rw [e1,e2]
   | exc x h1=>exact w.elim
   | bad=>exact w.elim
theorem Qu8 {o:Out α} (w:o.wp Q (fun _ _=>False)):∃ a h,o = .ok a h/\Q a h:=by
 with_unfolding_all
   cases o with
   | ok b h1=>exact ⟨b,h1,rfl,w⟩
   | exc x h1=>exact w.elim
   | bad=>exact w.elim
variable {QZ:Z->ZH->Prop} {QA:List Z->ZH->Prop} {QB:Bool->ZH->Prop} {da db dc:DE} {ds:DA} {ta tb:DT}
theorem wp_var {i:Nat}:(Q7 i s h).wp QZ E=S9 (Qr1 i s) fun z=>QZ z h:=by
 with_unfolding_all
   unfold Q7 Qr1;cases s[i]? with
   | none=>rfl
   | some o=>cases o <;> rfl
theorem wp_C {x:D}:(dC x s h).wp QZ E=QZ (.d x) h:=by with_unfolding_all exact (id rfl)
theorem wp_nil:(dNil s h).wp QA E=QA [] h:=by with_unfolding_all exact (id rfl)
theorem wp_cons:(Q4 da ds s h).wp QA E=(da s h).wp (fun z h1=>(ds s h1).wp (fun zs h2=>QA (z::zs) h2) E) E:=by
 with_unfolding_all
   unfold Q4;rw [wp_bnd];exact Y5 fun z h1=>by rw [wp_bnd]; rfl
theorem wp_bin {op:Op2}:(Y1 op da db s h).wp QZ E=(da s h).wp (fun x h1=>(db s h1).wp (fun y h2=>(op x y h2).wp QZ E) E) E:=by
 with_unfolding_all
   unfold Y1;rw [wp_bnd];exact Y5 fun z h1=>by rw [wp_bnd]
theorem wp_call {op:OpN}:(Y2 op ds s h).wp QZ E=(ds s h).wp (fun zs h1=>(op zs h1).wp QZ E) E:=by
 with_unfolding_all
   unfold Y2;simp only [wp_bnd]
theorem wp_callF {M:Sem}:(X7 M ds s h).wp QZ E=(ds s h).wp (fun zs h1=>(J8 M zs h1).wp QZ E) E:=by
 with_unfolding_all
   unfold X7;simp only [wp_bnd]
theorem wp_fld {f:Nat}:(Qq2 f da s h).wp QZ E=(da s h).wp (fun z h1=>S9 (QV4 f z h1) fun x=>QZ x h1) E:=by
 with_unfolding_all
   unfold Qq2;rw [wp_bnd];refine Y5 fun z h1=>?_;cases QV4 f z h1 <;> rfl
theorem wp_tup:(QL8 ds s h).wp QZ E=(ds s h).wp (fun zs h1=>S9 (G0 zs) fun xs=>xs.length<=1000000/\QZ (.d (.tup xs)) h1) E:=by
 with_unfolding_all
   unfold QL8;rw [wp_bnd];refine Y5 fun zs h1=>?_;cases G0 zs with
   | none=>rfl
   | some xs=>simp only [wp_iteb,wp_ok,S9]
theorem wp_lst:(Qw5 ds s h).wp QZ E=(ds s h).wp (fun zs h1=>S9 (G0 zs) fun xs=>xs.length<=1000000/\QZ (.d (.lst xs)) h1) E:=by
 with_unfolding_all
   unfold Qw5;rw [wp_bnd];refine Y5 fun zs h1=>?_;cases G0 zs with
   | none=>rfl
   | some xs=>simp only [wp_iteb,wp_ok,S9]
theorem wp_lstO:(Qz2 ds s h).wp QZ E=(ds s h).wp (fun zs h1=>S9 (G0 zs) fun xs=>xs.length<=1000000/\QZ (.r h1.length) (h1++[.dl xs])) E:=by
 with_unfolding_all
   unfold Qz2;rw [wp_bnd];refine Y5 fun zs h1=>?_;cases G0 zs with
   | none=>rfl
   | some xs=>simp only [wp_iteb,wp_ok,S9]
theorem wp_lstZ:(Qt5 ds s h).wp QZ E=(ds s h).wp (fun zs h1=>zs.length<=1000000/\QZ (.r h1.length) (h1++[.zl zs])) E:=by
 with_unfolding_all
   unfold Qt5;rw [wp_bnd];exact Y5 fun z h1=>by rw [wp_iteb]; rfl
theorem wp_meth {ty:Z->ZH->Bool} {op:OpM}:(P6 ty op da ds s h).wp QZ E=(da s h).wp (fun z h1=>ty z h1=true/\(ds s h1).wp (fun zs h2=>(op z zs h2).wp QZ E) E) E:=by
 with_unfolding_all
   unfold P6;rw [wp_bnd];exact Y5 fun z h1=>by rw [wp_iteb,wp_bnd]
theorem wp_methD {mt:Nat->Option Sem}:(S7 mt da ds s h).wp QZ E=(da s h).wp (fun z h1=>S9 ((Qa4 z h1).bind mt) fun M=>(ds s h1).wp (fun zs h2=>(J8 M (z::zs) h2).wp QZ E) E) E:=by
 with_unfolding_all
   unfold S7;rw [wp_bnd];refine Y5 fun z h1=>?_;cases Qa4 z h1 with
   | none=>rfl
   | some c =>
     show (match mt c with | some M=>_ | none=>Out.bad).wp QZ E=S9 (mt c) _;cases mt c with
     | none=>rfl
     | some M=>simp [wp_bnd,S9]
theorem wp_isi {t:Ty}:(Xb9 t da s h).wp QZ E=(da s h).wp (fun z h1=>S9 (tyZ z h1) fun u=>QZ (.d (.bl (u.isa t))) h1) E:=by
 with_unfolding_all
   unfold Xb9;rw [wp_bnd];refine Y5 fun z h1=>?_;cases tyZ z h1 <;> rfl
theorem wp_part {d:DE} {Q:Option Int->ZH->Prop}:(Qi0 (some d) s h).wp Q E=(d s h).wp (fun z h1=>S9 (zInt z) fun i=>Q (some i) h1) E:=by
 with_unfolding_all
   show ((d s h).bnd _).wp Q E=_;rw [wp_bnd];refine Y5 fun z h1=>?_;cases z with
   | d x=>cases x <;> rfl
   | _=>rfl
theorem wp_part0 {Q:Option Int->ZH->Prop}:(Qi0 none s h).wp Q E=Q none h:=by with_unfolding_all exact (id rfl)
theorem wp_sl {lo hi:Option DE}:(dSl da lo hi s h).wp QZ E=(da s h).wp (fun z h1=>(Qi0 lo s h1).wp (fun l h2=>(Qi0 hi s h2).wp (fun u h3=>(QW0 z l u h3).wp QZ E) E) E) E:=by
 with_unfolding_all
   unfold dSl;rw [wp_bnd]
   exact Y5 fun z h1=>by
     rw [wp_bnd];exact Y5 fun l h2=>by rw [wp_bnd]
theorem wp_andV:(QD5 da db s h).wp QZ E=(da s h).wp (fun z h1=>S9 (zBl z) fun b=>(if b=true then db s h1 else .ok (.d (.bl false)) h1).wp QZ E) E:=by
 with_unfolding_all
   unfold QD5;rw [wp_bnd];refine Y5 fun z h1=>?_;cases z with
   | d x=>cases x <;> first | rfl | (rename_i q; cases q <;> simp [S9,zBl,wp_ok,wp_bad,wp_bnd,wp_iteb])
   | _=>rfl
theorem wp_notV:(QM7 da s h).wp QZ E=(da s h).wp (fun z h1=>S9 (zBl z) fun b=>QZ (.d (.bl (!b))) h1) E:=by
 with_unfolding_all
   unfold QM7;rw [wp_bnd];refine Y5 fun z h1=>?_;cases z with
   | d x=>cases x <;> first | rfl | (rename_i q; cases q <;> simp [S9,zBl,wp_ok,wp_bad,wp_bnd,wp_iteb])
   | _=>rfl
theorem wp_chain {op op':Op2}:(P9 op op' da db dc s h).wp QZ E=(da s h).wp (fun x h1=>(db s h1).wp (fun y h2=>(op x y h2).wp (fun z h3=>S9 (zBl z) fun b=>(if b=true then (dc s h3).bnd fun w h4=>op' y w h4 else .ok (.d (.bl false)) h3).wp QZ E) E) E) E:=by
 with_unfolding_all
   unfold P9;rw [wp_bnd];refine Y5 fun x h1=>?_;rw [wp_bnd];refine Y5 fun y h2=>?_;rw [wp_bnd];refine Y5 fun z h3=>?_;cases z with
   | d x=>cases x <;> first | rfl | (rename_i q; cases q <;> simp [S9,zBl,wp_ok,wp_bad,wp_bnd,wp_iteb])
   | _=>rfl
theorem wp_test:(Qf0 da s h).wp QB E=(da s h).wp (fun z h1=>S9 (Qh6 z h1) fun b=>QB b h1) E:=by
 with_unfolding_all
   unfold Qf0;rw [wp_bnd];refine Y5 fun z h1=>?_;cases Qh6 z h1 <;> rfl
theorem wp_cmpT {op:Op2}:(V9 op da db s h).wp QB E=(da s h).wp (fun x h1=>(db s h1).wp (fun y h2=>(op x y h2).wp (fun z h3=>S9 (zBl z) fun b=>QB b h3) E) E) E:=by
 with_unfolding_all
   unfold V9;rw [wp_bnd];refine Y5 fun x h1=>?_;rw [wp_bnd];refine Y5 fun y h2=>?_;rw [wp_bnd];refine Y5 fun z h3=>?_;cases z with
   | d x=>cases x <;> first | rfl | (rename_i q; cases q <;> simp [S9,zBl,wp_ok,wp_bad,wp_bnd,wp_iteb])
   | _=>rfl
theorem wp_boolT:(E6 da s h).wp QB E=(da s h).wp (fun z h1=>S9 (zBl z) fun b=>QB b h1) E:=by
 with_unfolding_all
   unfold E6;rw [wp_bnd];refine Y5 fun z h1=>?_;cases z with
   | d x=>cases x <;> first | rfl | (rename_i q; cases q <;> simp [S9,zBl,wp_ok,wp_bad,wp_bnd,wp_iteb])
   | _=>rfl
theorem wp_and:(dAnd ta tb s h).wp QB E=(ta s h).wp (fun b h1=>(if b=true then tb s h1 else .ok false h1).wp QB E) E:=by
 with_unfolding_all
   unfold dAnd;rw [wp_bnd]
theorem wp_or:(dOr ta tb s h).wp QB E=(ta s h).wp (fun b h1=>(if b=true then .ok true h1 else tb s h1).wp QB E) E:=by
 with_unfolding_all
   unfold dOr;rw [wp_bnd]
theorem wp_not:(Qt0 ta s h).wp QB E=(ta s h).wp (fun b h1=>QB (!b) h1) E:=by
 with_unfolding_all
   unfold Qt0;rw [wp_bnd];exact Y5 fun z h1=>by rw [wp_ok]
variable {d d':DS}
theorem wps_skip:(dSkip s h).wp K=K.nx s h:=by with_unfolding_all exact (id rfl)
theorem wps_seq:(U9 d d' s h).wp K=(d s h).wp ⟨fun s h=>(d' s h).wp K,K.rt,K.bk,K.ct,K.ex⟩:=by
 with_unfolding_all
   unfold U9;rw [wps_bnd]
theorem wps_asg {t:DG}:(K7 da t s h).wp K=(da s h).wp (fun z h1=>(t z s h1).wp K) (fun x h1=>K.ex x s h1):=by
 with_unfolding_all
   unfold K7;rw [wp_bndS]
theorem wps_set {i:Nat} {z:Z}:(Z8 i z s h).wp K=K.nx (s.set i (some z)) h:=by with_unfolding_all exact (id rfl)
theorem wps_drop:(D4 da s h).wp K=(da s h).wp (fun _ h1=>K.nx s h1) (fun x h1=>K.ex x s h1):=by
 with_unfolding_all
   unfold D4;rw [wp_bndS];rfl
theorem wps_ret:(L0 da s h).wp K=(da s h).wp (fun z h1=>K.rt z h1) (fun x h1=>K.ex x s h1):=by
 with_unfolding_all
   unfold L0;rw [wp_bndS];rfl
theorem wps_if:(dIf ta d d' s h).wp K=(ta s h).wp (fun b h1=>(if b=true then d s h1 else d' s h1).wp K) (fun x h1=>K.ex x s h1):=by
 with_unfolding_all
   unfold dIf;rw [wp_bndS]
theorem wps_raise {c:Nat}:(Qq7 c s h).wp K=K.ex ⟨c,[]⟩ s h:=by with_unfolding_all exact (id rfl)
theorem wps_setfld {f:Nat} {dv:DE}:(L7 f dv da s h).wp K=(dv s h).wp (fun y h1=>(da s h1).wp (fun x h2=>(Qq5 f y x s h2).wp K) (fun x h1=>K.ex x s h1)) (fun x h1=>K.ex x s h1):=by
 with_unfolding_all
   unfold L7;rw [wp_bndS];exact Y5 fun z h1=>by rw [wp_bndS]
theorem wps_frz {i:Nat}:(Xb7 i d s h).wp K=(QE0 i s h).wp ⟨fun s h=>(d s h).wp K,K.rt,K.bk,K.ct,K.ex⟩:=by
 with_unfolding_all
   unfold Xb7;rw [wps_bnd]
def KS.tryK (hit:Hit) (su:ZX->DS) (K:KS):KS:=⟨K.nx,K.rt,K.bk,K.ct,fun x s h=>match hit x.c with
 | some true=>(noExc (su x s h)).wp K
 | some false=>K.ex x s h
 | none=>False⟩
def KS.tryA (hit:Hit) (i:Nat) (su:Addr->ZX->DS) (K:KS):KS:=⟨K.nx,K.rt,K.bk,K.ct,fun x s h=>match hit x.c with
 | some true=>(C0 fun a=>Qf1 i (su a x (s.set i (some (.e a))) h)).wp K
 | some false=>K.ex x s h
 | none=>False⟩
def KS.endK (is:List Nat) (n:Nat) (K:KS):KS:=⟨fun s h=>(gcS n (.nx (wipeAll is s) h)).wp K,fun z h=>(gcS n (.rt z h)).wp K,fun s h=>(gcS n (.bk (wipeAll is s) h)).wp K,fun s h=>(gcS n (.ct (wipeAll is s) h)).wp K,fun x s h=>(gcS n (.exc x (wipeAll is s) h)).wp K⟩
theorem wps_end {is:List Nat}:(O4 is d s h).wp K=(d s h).wp (K.endK is h.length):=by
 with_unfolding_all
   unfold O4;cases d s h <;> rfl
theorem wp_runF {n m:Nat} {zs:List Z}:(M9 n m d zs h).wp QZ E=(zs.length=n/\(d (zs.map some++List.replicate (m - n) none) h).wp ⟨fun _ h=>QZ (.d .non) h,QZ,fun _ _=>False,fun _ _=>False,fun x _ h=>E x h⟩):=by
 with_unfolding_all
   unfold M9
   by_cases k:zs.length=n
   . rw [if_pos k];simp only [k,true_and];cases d (zs.map some++List.replicate (m - n) none) h <;> rfl
   . rw [if_neg k];simp [k,wp_bad]
theorem wps_for {di:DI} {t:DG}:(Qk2 di t d s h).wp K=(di s h).wp (fun it h1=>(V8 it.guard t d it.items s h1).wp K) (fun x h1=>K.ex x s h1):=by
 with_unfolding_all
   unfold Qk2;rw [wp_bndS]
def KS.turn (gd:ZH->Prop) (I:ZS->ZH->Prop) (K:KS):KS:=⟨fun s h=>gd h/\I s h,K.rt,K.nx,fun s h=>gd h/\I s h,K.ex⟩
theorem forW {gd:ZH->Prop} {t:DG} (I:Nat->ZS->ZH->Prop) {zs:List Z} (start:I 0 s h)
   (step:∀ i z s h,zs[i]? = some z->I i s h->(t z s h).wp ⟨fun s1 h1=>(d s1 h1).wp (K.turn gd (I (i+1))),K.rt,K.bk,K.ct,K.ex⟩)
   (fin:∀ s h,I zs.length s h->K.nx s h):(V8 gd t d zs s h).wp K:=by
 with_unfolding_all
   suffices H:∀ (n:Nat) (ys:List Z) (s:ZS) (h:ZH),zs.drop n=ys->n+ys.length=zs.length->I n s h->(V8 gd t d ys s h).wp K from H 0 zs s h rfl (by simp) start
   intro n ys
   induction ys generalizing n with
   | nil =>
     intro s h _ e i;unfold V8;exact fin s h (by simp at e; rw [<- e]; exact i)
   | cons z ys ih =>
     intro s h e el i
     have hz:zs[n]? = some z:=by
       have:=congrArg List.head? e;rw [List.head?_drop] at this;exact this
     have hd:zs.drop (n+1)=ys:=by
       have:=congrArg List.tail e;rw [List.tail_drop] at this;exact this
     have w:=step n z s h hz i;unfold V8;cases ht:t z s h with
     | nx s1 h1 =>
       rw [ht] at w;have w:(d s1 h1).wp (K.turn gd (I (n+1))):=w;dsimp only;cases hd1:d s1 h1 with
       | nx s2 h2 =>
         rw [hd1] at w;have w:gd h2/\I (n+1) s2 h2:=w;dsimp only;rw [if_pos w.1];exact ih (n+1) s2 h2 hd (by simp at el; omega) w.2
       | ct s2 h2 =>
         rw [hd1] at w;have w:gd h2/\I (n+1) s2 h2:=w;dsimp only;rw [if_pos w.1];exact ih (n+1) s2 h2 hd (by simp at el; omega) w.2
       | bk s2 h2=>rw [hd1] at w; exact w
       | rt s2 h2=>rw [hd1] at w; exact w
       | exc x s2 h2=>rw [hd1] at w; exact w
       | bad=>rw [hd1] at w; exact w
     | rt s1 h1=>rw [ht] at w; exact w
     | bk s1 h1=>rw [ht] at w; exact w
     | ct s1 h1=>rw [ht] at w; exact w
     | exc x s1 h1=>rw [ht] at w; exact w
     | bad=>rw [ht] at w; exact w
theorem wp_lc {k:Keep} {di:DI} {i:Nat} {tt:DT} {de:DE}:(dLc k di i tt de s h).wp QZ E=(di s h).wp (fun it h1=>(K8 it.guard (fun z=>(s.set i none).set i (some z)) tt de it.items h1 []).wp (fun zs h2=>(K1 k zs h2).wp QZ E) E) E:=by
 with_unfolding_all
   unfold dLc;rw [wp_bnd];exact Y5 fun z h1=>by rw [wp_bnd]
theorem lcW {gd:ZH->Prop} {t:Z->ZS} {tt:DT} {de:DE} (I:Nat->ZH->List Z->Prop) {zs acc:List Z} (start:I 0 h acc)
   (step:∀ i z h acc,zs[i]? = some z->I i h acc->(tt (t z) h).wp (fun b h1=>if b=true then (de (t z) h1).wp (fun y h2=>gd h2/\acc.length<1000000/\I (i+1) h2 (acc++[y])) (fun _ _=>False) else gd h1/\I (i+1) h1 acc) (fun _ _=>False))
   (fin:∀ h acc,I zs.length h acc->QA acc h):(K8 gd t tt de zs h acc).wp QA E:=by
 with_unfolding_all
   suffices H:∀ (n:Nat) (ys:List Z) (h:ZH) (acc:List Z),zs.drop n=ys->n+ys.length=zs.length->I n h acc->(K8 gd t tt de ys h acc).wp QA E from H 0 zs h acc rfl (by simp) start
   intro n ys
   induction ys generalizing n with
   | nil =>
     intro h acc _ e i;unfold K8;exact fin h acc (by simp at e; rw [<- e]; exact i)
   | cons z ys ih =>
     intro h acc e el i
     have hz:zs[n]? = some z:=by
       have:=congrArg List.head? e;rw [List.head?_drop] at this;exact this
     have hd:zs.drop (n+1)=ys:=by
       have:=congrArg List.tail e;rw [List.tail_drop] at this;exact this
     have w:=step n z h acc hz i;unfold K8;cases ht:tt (t z) h with
     | ok b h1 =>
       rw [ht] at w;cases b with
       | true =>
         have w:(de (t z) h1).wp _ _:=w;dsimp only;cases hd1:de (t z) h1 with
         | ok y h2 =>
           rw [hd1] at w;have w:gd h2/\acc.length<1000000/\I (n+1) h2 (acc++[y]):=w;dsimp only;rw [if_pos ⟨w.1,w.2.1⟩];exact ih (n+1) h2 _ hd (by simp at el; omega) w.2.2
         | exc x h2=>rw [hd1] at w; exact w.elim
         | bad=>rw [hd1] at w; exact w.elim
       | false =>
         have w:gd h1/\I (n+1) h1 acc:=w;dsimp only;rw [if_pos w.1];exact ih (n+1) h1 acc hd (by simp at el; omega) w.2
     | exc x h1=>rw [ht] at w; exact w.elim
     | bad=>rw [ht] at w; exact w.elim
end
section
variable {s:ZS} {h:ZH} {K:KS} {QZ:Z->ZH->Prop} {E:ZX->ZH->Prop}
theorem add_i {i j:Int}:opAdd (.d (.int i)) (.d (.int j)) h = .ok (.d (.int (i+j))) h:=id rfl
theorem add_s {i j:List Nat}:opAdd (.d (.str i)) (.d (.str j)) h=if i.length+j.length<=1000000 then .ok (.d (.str (i++j))) h else .bad:=id rfl
theorem sub_i {i j:Int}:QT9 (.d (.int i)) (.d (.int j)) h = .ok (.d (.int (i - j))) h:=id rfl
theorem mod_i {i j:Int}:H7 (.d (.int i)) (.d (.int j)) h=if 0<j then .ok (.d (.int (i % j))) h else .bad:=by
 unfold H7 Qp5
 by_cases k:0<j <;> simp [k]
theorem div_i {i j:Int}:QM5 (.d (.int i)) (.d (.int j)) h=if 0<j/\j<1073741824 then .ok (.d (.int (i / j))) h else .bad:=by
 unfold QM5 Qp5
 by_cases k:0<j <;> by_cases l:j<1073741824 <;> simp [k,l]
theorem mul_i {i j:Int}:opMulS (.d (.int i)) (.d (.int j)) h=if i.natAbs<18446744073709551616\/j.natAbs<18446744073709551616 then .ok (.d (.int (i*j))) h else .bad:=by
 show QU0 (.d (.int i)) (.d (.int j)) h=_;unfold QU0 Qp5
 by_cases k:i.natAbs<18446744073709551616 <;> by_cases l:j.natAbs<18446744073709551616 <;> simp [k,l]
theorem mul_s {t:List Nat} {i:Int}:opMulS (.d (.str t)) (.d (.int i)) h=if -1000000<=i/\i<=1 then .ok (.d (.str (if i<1 then [] else t))) h else .bad:=id rfl
theorem pow_i {i j:Int}:QM6 (.d (.int i)) (.d (.int j)) h=if 0<=j/\j<=1000000/\i.natAbs<18446744073709551616 then .ok (.d (.int (i ^ j.toNat))) h else .bad:=by
 unfold QM6 Qp5
 by_cases k:0<=j <;> by_cases l:j<=1000000 <;> by_cases m:i.natAbs<18446744073709551616 <;> simp [k,l,m]
theorem lt_i {i j:Int}:QR0 (.d (.int i)) (.d (.int j)) h = .ok (.d (.bl (decide (i<j)))) h:=id rfl
theorem le_i {i j:Int}:Qw3 (.d (.int i)) (.d (.int j)) h = .ok (.d (.bl (decide (i<=j)))) h:=id rfl
theorem gt_i {i j:Int}:opGt (.d (.int i)) (.d (.int j)) h = .ok (.d (.bl (decide (j<i)))) h:=id rfl
theorem ge_i {i j:Int}:opGe (.d (.int i)) (.d (.int j)) h = .ok (.d (.bl (decide (j<=i)))) h:=id rfl
theorem int_i {i:Int}:opInt [.d (.int i)] h = .ok (.d (.int i)) h:=id rfl
theorem abs_i {i:Int}:opAbs [.d (.int i)] h = .ok (.d (.int (if i<0 then -i else i))) h:=id rfl
theorem len_s {t:List Nat}:opLen [.d (.str t)] h = .ok (.d (.int t.length)) h:=id rfl
theorem len_l {t:List D}:opLen [.d (.lst t)] h = .ok (.d (.int t.length)) h:=id rfl
theorem len_t {t:List D}:opLen [.d (.tup t)] h = .ok (.d (.int t.length)) h:=id rfl
theorem len_c {t:List D}:opLen [.d (.scr t)] h = .ok (.d (.int t.length)) h:=id rfl
theorem list_l {o:Bool} {t:List D}:I8 o [.d (.lst t)] h=if o=true then .ok (.r h.length) (h++[.dl t]) else .ok (.d (.lst t)) h:=id rfl
theorem list_t {o:Bool} {t:List D}:I8 o [.d (.tup t)] h=if o=true then .ok (.r h.length) (h++[.dl t]) else .ok (.d (.lst t)) h:=id rfl
def QX4 (o:Bool):Option ZO->ZH->Out Z
 | some (.dl t),h=>if o=true then .ok (.r h.length) (h++[.dl t]) else .ok (.d (.lst t)) h
 | _,_=>.bad
theorem listO_dl {o:Bool} {t:List D}:QX4 o (some (.dl t)) h=if o=true then .ok (.r h.length) (h++[.dl t]) else .ok (.d (.lst t)) h:=id rfl
theorem list_r {o:Bool} {i:Nat}:I8 o [.r i] h=QX4 o h[i]? h:=by
 unfold I8 P7 QX4;dsimp only;cases h[i]? with
 | none=>rfl
 | some o=>cases o <;> rfl
def tupO:Option ZO->ZH->Out Z
 | some (.dl t),h=>.ok (.d (.tup t)) h
 | _,_=>.bad
theorem tupO_dl {t:List D}:tupO (some (.dl t)) h = .ok (.d (.tup t)) h:=id rfl
theorem tup_r {i:Nat}:opTuple [.r i] h=tupO h[i]? h:=by
 unfold opTuple P7 tupO;dsimp only;cases h[i]? with
 | none=>rfl
 | some o=>cases o <;> rfl
theorem ix_s {t:List Nat} {i:Int}:opIx (.d (.str t)) (.d (.int i)) h=(match (ixN t.length i).bind fun j=>t[j]? with | some c=>.ok (.d (.str [c])) h | none=>.bad):=id rfl
def ixD (xs:List D) (i:Int) (h:ZH):Out Z:=match atD xs i with
 | some x=>.ok (.d x) h
 | none=>.bad
theorem ix_l {t:List D} {i:Int}:opIx (.d (.lst t)) (.d (.int i)) h=ixD t i h:=id rfl
theorem ix_t {t:List D} {i:Int}:opIx (.d (.tup t)) (.d (.int i)) h=ixD t i h:=id rfl
theorem ix_c {t:List D} {i:Int}:opIx (.d (.scr t)) (.d (.int i)) h=ixD t i h:=id rfl
def ixO (i:Int):Option ZO->ZH->Out Z
 | some (.dl t),h=>ixD t i h
 | some (.zl t),h=>match atZ t i with
   | some x=>.ok x h
   | none=>.bad
 | _,_=>.bad
theorem ixO_dl {t:List D} {i:Int}:ixO i (some (.dl t)) h=ixD t i h:=id rfl
theorem ixO_zl {t:List Z} {i:Int}:ixO i (some (.zl t)) h=match atZ t i with
 | some x=>.ok x h
 | none=>.bad:=id rfl
theorem ix_r {k:Nat} {i:Int}:opIx (.r k) (.d (.int i)) h=ixO i h[k]? h:=by
 unfold opIx ixO;dsimp only;cases h[k]? with
 | none=>rfl
 | some o=>cases o <;> rfl
theorem wp_ixD {xs:List D} {i:Int}:(ixD xs i h).wp QZ E=S9 (atD xs i) fun x=>QZ (.d x) h:=by
 with_unfolding_all
   unfold ixD;cases atD xs i <;> rfl
def eqO (n:Bool) (o:Option Bool) (h:ZH):Out Z:=match o with
 | some k=>.ok (.d (.bl (if n then !k else k))) h
 | none=>.bad
theorem eq_v {n:Bool} {x y:Z}:E5 n x y h=match N5 x h,N5 y h with
 | some p,some q=>eqO n (peq p q) h
 | _,_=>.bad:=by
 unfold E5 eqO;cases N5 x h <;> cases N5 y h <;> rfl
theorem eq_d {n:Bool} {x y:D}:E5 n (.d x) (.d y) h=eqO n (peq x y) h:=by rw [eq_v]; rfl
def QA2:Option ZO->Option D
 | some (.dl xs)=>some (.lst xs)
 | _=>none
theorem viewO_dl {xs:List D}:QA2 (some (.dl xs))=some (.lst xs):=id rfl
theorem view_r {i:Nat}:N5 (.r i) h=QA2 h[i]?:=by
 show (match h[i]? with
   | some (.dl xs)=>some (D.lst xs)
   | _=>none)=QA2 h[i]?
 unfold QA2
 all_goals (rcases h[i]? with _ | o)
 all_goals first | rfl | (cases o <;> rfl)
theorem QS0 {x:D}:N5 (.d x) h=some x:=id rfl
theorem eq_rd {n:Bool} {i:Nat} {y:D}:E5 n (.r i) (.d y) h=match QA2 h[i]? with
 | some p=>eqO n (peq p y) h
 | none=>.bad:=by
 rw [eq_v,view_r];cases QA2 h[i]? <;> rfl
theorem peq_ii {i j:Int}:peq (.int i) (.int j)=some (decide (i=j)):=by
 rw [QW5]
 congr 1
theorem wp_eqO {n:Bool} {o:Option Bool}:(eqO n o h).wp QZ E=S9 o fun k=>QZ (.d (.bl (if n then !k else k))) h:=by
 with_unfolding_all
   unfold eqO;cases o <;> rfl
theorem tr_b {b:Bool}:Qh6 (.d (.bl b)) h=some b:=id rfl
theorem isLst_l {b:List D}:isLst (.d (.lst b)) h=true:=id rfl
def Qr2:Option ZO->Bool
 | some (.dl _)=>true
 | some (.zl _)=>true
 | _=>false
theorem isLst_r {i:Nat}:isLst (.r i) h=Qr2 h[i]?:=by
 show (match h[i]? with
   | some (.dl _)=>true
   | some (.zl _)=>true
   | _=>false)=Qr2 h[i]?
 unfold Qr2
 all_goals (rcases h[i]? with _ | o)
 all_goals first | rfl | (cases o <;> rfl)
theorem isLstO_dl {b:List D}:Qr2 (some (.dl b))=true:=id rfl
theorem isLstO_zl {b:List Z}:Qr2 (some (.zl b))=true:=id rfl
def appO (i:Nat) (z:Z):Option ZO->ZH->Out Z
 | some (.dl xs),h=>match z with
   | .d y=>if xs.length<1000000 then .ok (.d .non) (h.set i (.dl (xs++[y]))) else .bad
   | .r j=>if xs.isEmpty=true then .ok (.d .non) (h.set i (.zl [.r j])) else .bad
   | _=>.bad
 | some (.zl xs),h=>if xs.length<1000000 then .ok (.d .non) (h.set i (.zl (xs++[z]))) else .bad
 | _,_=>.bad
theorem appO_dl {i:Nat} {y:D} {xs:List D}:appO i (.d y) (some (.dl xs)) h=if xs.length<1000000 then .ok (.d .non) (h.set i (.dl (xs++[y]))) else .bad:=id rfl
theorem appO_zl {i:Nat} {y:Z} {xs:List Z}:appO i y (some (.zl xs)) h=if xs.length<1000000 then .ok (.d .non) (h.set i (.zl (xs++[y]))) else .bad:=id rfl
theorem app_r {i:Nat} {z:Z}:opAppend (.r i) [z] h=appO i z h[i]? h:=by
 unfold opAppend appO;dsimp only;cases h[i]? with
 | none=>cases z <;> rfl
 | some o =>
   cases o with
   | dl xs =>
     cases z with
     | d x=>rfl
     | r j=>cases xs <;> rfl
     | e a=>cases xs <;> rfl
   | zl xs=>cases z <;> rfl
   | _=>cases z <;> rfl
def popO (i:Nat):Option ZO->ZH->Out Z
 | some (.dl xs),h=>match xs.getLast? with
   | some y=>.ok (.d y) (h.set i (.dl xs.dropLast))
   | none=>.bad
 | _,_=>.bad
theorem pop_r {i:Nat}:opPop (.r i) [] h=popO i h[i]? h:=by
 unfold opPop popO;dsimp only;cases h[i]? with
 | none=>rfl
 | some o=>cases o <;> rfl
theorem popO_dl {i:Nat} {xs:List D} {y:D}:popO i (some (.dl (xs++[y]))) h = .ok (.d y) (h.set i (.dl xs)):=by
 unfold popO;simp
def revO (i:Nat):Option ZO->ZH->Out Z
 | some (.dl xs),h=>.ok (.d .non) (h.set i (.dl xs.reverse))
 | _,_=>.bad
theorem rev_r {i:Nat}:opReverse (.r i) [] h=revO i h[i]? h:=by
 unfold opReverse revO;dsimp only;cases h[i]? with
 | none=>rfl
 | some o=>cases o <;> rfl
theorem revO_dl {i:Nat} {xs:List D}:revO i (some (.dl xs)) h = .ok (.d .non) (h.set i (.dl xs.reverse)):=id rfl
theorem asDs_0:G0 []=some []:=id rfl
theorem asDs_s {x:D} {zs:List Z}:G0 (.d x::zs)=(G0 zs).bind fun xs=>some (x::xs):=id rfl
theorem Qn9:∀ xs:List D,G0 (xs.map .d)=some xs
 | []=>rfl
 | x::xs=>by
   rw [Xr4];unfold G0;rw [Qn9 xs];rfl
theorem bind_s {α β:Type} {a:α} {f:α->Option β}:(some a).bind f=f a:=id rfl
def itO (i:Nat):Option ZO->Option ZIt
 | some (.dl xs)=>some ⟨xs.map .d,some (i,.dl xs)⟩
 | some (.zl zs)=>some ⟨zs,some (i,.zl zs)⟩
 | _=>none
theorem itO_zl {i:Nat} {xs:List Z}:itO i (some (.zl xs))=some ⟨xs,some (i,.zl xs)⟩:=id rfl
def InR (j:Int):Prop:=-4611686018427387904<=j/\j<4611686018427387904
theorem Qo0 {n:Nat} (hn:n<1000000):InR (n:Int):=⟨QW7,QN3 hn⟩
theorem R9 {j:Int} (h0 : -1000000<=j) (h1:j<=1000000):InR j:=⟨by omega,by omega⟩
theorem wp_rng1 {d:DA} {Q:ZIt->ZH->Prop}:(K0 d s h).wp Q E=(d s h).wp (fun zs h1=>S9 (match zs with | [z]=>zInt z | _=>none) fun j=>InR j/\Q ⟨H9 0 j.toNat,none⟩ h1) E:=by
 with_unfolding_all
   unfold K0;rw [wp_bnd];refine Y5 fun zs h1=>?_
   match zs with
   | []=>rfl
   | [.d x] =>
     cases x with
     | int j =>
       show (if _ then _ else _:Out ZIt).wp Q E=(InR j/\_);rw [wp_iteb];simp only [Bool.and_eq_true,decide_eq_true_eq,InR,wp_ok]
     | _=>rfl
   | [.r _]=>rfl
   | [.e _]=>rfl
   | .d x::b::c=>cases x <;> rfl
   | .r _::b::c=>rfl
   | .e _::b::c=>rfl
theorem isa_int_bl:Ty.isa .int .bl=false:=id rfl
theorem isa_int_int:Ty.isa .int .int=true:=id rfl
theorem isa_tup_tup:Ty.isa .tup .tup=true:=id rfl
theorem ty_i {x:Int}:tyZ (.d (.int x)) h=some .int:=id rfl
theorem ty_t {x:List D}:tyZ (.d (.tup x)) h=some .tup:=id rfl
def frzO (i k:Nat) (s:ZS):Option ZO->ZH->OutS
 | some (.dl xs),h=>.nx (s.set i (some (.d (.lst xs)))) (h.set k .gone)
 | _,_=>.bad
def frzS (i:Nat) (s:ZS):Option Z->ZH->OutS
 | some (.r k),h=>frzO i k s h[k]? h
 | _,_=>.bad
theorem frzO_dl {i k:Nat} {xs:List D}:frzO i k s (some (.dl xs)) h = .nx (s.set i (some (.d (.lst xs)))) (h.set k .gone):=id rfl
theorem frzS_r {i k:Nat}:frzS i s (some (.r k)) h=frzO i k s h[k]? h:=id rfl
theorem frzAt_ok {i:Nat}:QE0 i s h=frzS i s (Qr1 i s) h:=by
 unfold QE0 Qr1 frzS frzO;cases s[i]? with
 | none=>rfl
 | some o =>
   cases o with
   | none=>rfl
   | some z =>
     cases z with
     | r k =>
       dsimp only;cases h[k]? with
       | none=>rfl
       | some q=>cases q <;> rfl
     | _=>rfl
theorem sl_l {xs:List D} {lo hi:Option Int}:QW0 (.d (.lst xs)) lo hi h = .ok (.d (.lst (Qx1 xs lo hi))) h:=id rfl
theorem sl_s {xs:List Nat} {lo hi:Option Int}:QW0 (.d (.str xs)) lo hi h = .ok (.d (.str (Qx1 xs lo hi))) h:=id rfl
theorem QX5 {α:Type} {xs:List α} {n:Nat}:Qx1 xs none (some (n:Int))=xs.take n:=by
 unfold Qx1;rw [HT.sIx_none,HT.sIx_nat];simp
theorem Qx4:∀ (f:Nat) (w acc:List Nat) {h:ZH},(∀ i∈w,i∈acc)->P0 h f w acc=acc
 | 0,_,_,_,_=>by unfold P0; rfl
 | f+1,[],_,_,_=>by unfold P0; rfl
 | f+1,i::w,acc,h,k=>by
   unfold P0;rw [if_pos (by simpa using k i Xr1)];exact Qx4 f w acc fun j hj=>k j (Xq9 _ hj)
theorem Qr3 (n:Nat):Qa0 (List.range n)=true:=by
 have H:∀ l:List Nat,l.Nodup->Qa0 l=true:=by
   intro l
   induction l with
   | nil=>intro _; rfl
   | cons a l ih =>
     intro nd;obtain ⟨h1,h2⟩:=List.nodup_cons.mp nd;unfold Qa0;simp [h1,ih h2]
 exact H _ List.nodup_range
theorem QG2 {n i:Nat} (h:i<n):(List.range n).idxOf i=i:=by
 have hm:i∈List.range n:=List.mem_range.mpr h;have h1:=Qc2 hm
 have h2:(List.range n)[(List.range n).idxOf i]? = some ((List.range n).idxOf i):=by
   have:=List.idxOf_lt_length_of_mem hm;rw [Xq6 this,List.getElem_range]
 rw [h1] at h2;exact (Option.some.inj h2).symm
theorem Qo1 {n:Nat} {z:Z} (h:∀ i∈K3 z,i<n):Qk3 (List.range n) z=z:=by
 cases z with
 | r i=>show Z.r _=_; rw [QG2 (h i (by simp [K3]))]
 | _=>rfl
theorem Qo2 {n:Nat}:∀ {zs:List Z},(∀ i∈zs.flatMap K3,i<n)->zs.map (Qk3 (List.range n))=zs
 | [],_=>rfl
 | z::zs,h=>by
   rw [Xr4,Qo1 fun i hi=>h i (by rw [List.flatMap_cons]; exact List.mem_append_left _ hi),Qo2 fun i hi=>h i (by rw [List.flatMap_cons]; exact List.mem_append_right _ hi)]
theorem QG3 {n:Nat}:∀ {fs:List (Nat × Z)},(∀ i∈fs.flatMap (fun p=>K3 p.2),i<n)->fs.map (fun p=>(p.1,Qk3 (List.range n) p.2))=fs
 | [],_=>rfl
 | z::zs,h=>by
   rw [Xr4,Qo1 fun i hi=>h i (by rw [List.flatMap_cons]; exact List.mem_append_left _ hi),QG3 fun i hi=>h i (by rw [List.flatMap_cons]; exact List.mem_append_right _ hi)]
theorem QX6 {n:Nat} {o:ZO} (h:∀ i∈M7 o,i<n):QM9 (List.range n) o=o:=by
 cases o with
 | zl zs=>show ZO.zl _=_; rw [Qo2 h]
 | zdic ks zs=>show ZO.zdic ks _=_; rw [Qo2 h]
 | ins c fs=>show ZO.ins c _=_; rw [QG3 h]
 | _=>rfl
theorem QA3 {n:Nat} (hn:n<=h.length) (hr:∀ i∈QF8 (h.take n),i<n):Qc3 (List.range n) h=h.take n:=by
 unfold Qc3;refine List.ext_getElem (by simp; omega) fun i h1 h2=>?_;have hi:i<h.length:=by simp at h2; omega
 have e:h.getD i .gone=h[i]:=by simp [List.getD_eq_getElem?_getD,Xq6 hi]
 simp only [List.getElem_map,List.getElem_range,e,List.getElem_take];refine QX6 fun j hj=>hr j ?_;unfold QF8;exact List.mem_flatMap.mpr ⟨h[i],List.mem_take_iff_getElem.mpr ⟨i,by simp at h2; omega,rfl⟩,hj⟩
def gcIn (n:Nat) (roots:List Nat) (h:ZH):Bool:=decide (n<=h.length) && roots.all (fun i=>decide (i<n)) && (QF8 (h.take n)).all fun i=>decide (i<n)
theorem Qu9 {n:Nat} {roots:List Nat} (k:gcIn n roots h=true):QX0 n roots h=List.range n/\QM0 n roots h (List.range n)=true/\Qc3 (List.range n) h=h.take n /\ ∀ i∈roots,i<n:=by
 unfold gcIn at k;simp only [Bool.and_eq_true,decide_eq_true_eq,List.all_eq_true] at k;obtain ⟨⟨k1,k2⟩,k3⟩:=k;refine ⟨?_,?_,QA3 k1 k3,k2⟩
 . unfold QX0;refine Qx4 _ _ _ fun i hi=>List.mem_range.mpr ?_;rcases List.mem_append.mp hi with hi | hi
   . exact k3 i hi
   . exact k2 i hi
 . unfold QM0;simp only [Bool.and_eq_true,decide_eq_true_eq,List.all_eq_true,Qr3];refine ⟨⟨⟨by rw [List.take_of_length_le (by simp)],fun i hi=>by simpa using k2 i hi⟩,fun i hi=>⟨by have:=List.mem_range.mp hi; omega,fun j hj=>?_⟩⟩,trivial⟩;have hi':=List.mem_range.mp hi;have e:h.getD i .gone=h[i]:=by simp [List.getD_eq_getElem?_getD,Xq6 (show i<h.length by omega)]
   rw [e] at hj;have:=k3 j (by unfold QF8; exact List.mem_flatMap.mpr ⟨h[i],List.mem_take_iff_getElem.mpr ⟨i,by omega,rfl⟩,hj⟩);simpa using this
theorem gc_rt {n:Nat} {z:Z} (k:gcIn n (K3 z) h=true):gcS n (.rt z h) = .rt z (h.take n):=by
 obtain ⟨a,b,c,d⟩:=Qu9 k;unfold gcS;dsimp only;rw [a,if_pos b,c,Qo1 d]
theorem QG4 {n:Nat} (d:∀ i∈Qa8 s,i<n):QN5 (List.range n) s=s:=by
 unfold QN5
 induction s with
 | nil=>rfl
 | cons o s ih =>
   unfold Qa8 at d;rw [List.flatMap_cons] at d;rw [Xr4,ih fun i hi=>d i (List.mem_append_right _ hi)];cases o with
   | none=>rfl
   | some z=>show some (Qk3 _ z)::s=_; rw [Qo1 fun i hi=>d i (List.mem_append_left _ hi)]
theorem gc_nx {n:Nat} (k:gcIn n (Qa8 s) h=true):gcS n (.nx s h) = .nx s (h.take n):=by
 obtain ⟨a,b,c,d⟩:=Qu9 k;unfold gcS;dsimp only;rw [a,if_pos b,c,QG4 d]
theorem gc_exc {n:Nat} {x:ZX} (k:gcIn n (Qa8 s) h=true):gcS n (.exc x s h) = .exc x s (h.take n):=by
 obtain ⟨a,b,c,d⟩:=Qu9 k;unfold gcS;dsimp only;rw [a,if_pos b,c,QG4 d]
theorem gc_new {x:List D} {t:ZH}:gcS 0 (.rt (.r 0) (.dl x::t)) = .rt (.r 0) [.dl x]:=by rfl
theorem endK_nx {is:List Nat} {n:Nat}:(K.endK is n).nx s h=(gcS n (.nx (wipeAll is s) h)).wp K:=by with_unfolding_all exact (id rfl)
theorem endK_rt {is:List Nat} {n:Nat} {z:Z}:(K.endK is n).rt z h=(gcS n (.rt z h)).wp K:=by with_unfolding_all exact (id rfl)
theorem endK_ex {is:List Nat} {n:Nat} {x:ZX}:(K.endK is n).ex x s h=(gcS n (.exc x (wipeAll is s) h)).wp K:=by with_unfolding_all exact (id rfl)
theorem turn_nx {gd:ZH->Prop} {I:ZS->ZH->Prop}:(K.turn gd I).nx s h=(gd h/\I s h):=id rfl
theorem turn_rt {gd:ZH->Prop} {I:ZS->ZH->Prop} {z:Z}:(K.turn gd I).rt z h=K.rt z h:=id rfl
theorem turn_ex {gd:ZH->Prop} {I:ZS->ZH->Prop} {x:ZX}:(K.turn gd I).ex x s h=K.ex x s h:=id rfl
theorem wipe_0:wipeAll [] s=s:=id rfl
theorem wipe_s {i:Nat} {is:List Nat}:wipeAll (i::is) s=wipeAll is (s.set i none):=id rfl
theorem guard_n {xs:List Z}:ZIt.guard ⟨xs,none⟩ h=True:=id rfl
theorem QN9 {t:DG} {d:DS} {gd:ZH->Prop} {n:Nat} (I:Nat->ZS->ZH->Prop) (start:I 0 s h)
   (step:∀ i s h,i<n->I i s h->(t (.d (.int i)) s h).wp ⟨fun s1 h1=>(d s1 h1).wp (K.turn gd (I (i+1))),K.rt,K.bk,K.ct,K.ex⟩)
   (fin:∀ s h,I n s h->K.nx s h):(V8 gd t d (H9 0 n) s h).wp K:=by
 with_unfolding_all
   refine forW I start (fun i z s h hz k=>?_) fun s h k=>fin s h (by rw [QA0] at k; exact k);obtain ⟨hl,rfl⟩:=Qz9 hz;rw [Int.zero_add];exact step i s h hl k
theorem lstW {t:DG} {d:DS} {gd:ZH->Prop} {xs:List D} (I:Nat->ZS->ZH->Prop) (start:I 0 s h)
   (step:∀ i (x:D) s h,xs[i]? = some x->I i s h->(t (.d x) s h).wp ⟨fun s1 h1=>(d s1 h1).wp (K.turn gd (I (i+1))),K.rt,K.bk,K.ct,K.ex⟩)
   (fin:∀ s h,I xs.length s h->K.nx s h):(V8 gd t d (xs.map .d) s h).wp K:=by
 with_unfolding_all
   refine forW I start (fun i z s h hz k=>?_) fun s h k=>fin s h (by rw [Xq5] at k; exact k);rw [Xq7] at hz;cases e:xs[i]? with
   | none=>rw [e] at hz; cases hz
   | some x =>
     rw [e] at hz;cases hz;exact step i x s h e k
theorem X9 {M:Sem} {xs:List D} {x:D} (e:M (xs.map .d) [] = .ok (.d x) []) (q:QZ (.d x) h):(J8 M (xs.map .d) h).wp QZ E:=by
 with_unfolding_all
   rw [QW4 e]; exact q
end
mutual
def plB:D->Bool
 | .non=>true
 | .int _=>true
 | .str _=>true
 | .tup xs=>Qk4 xs
 | .lst xs=>Qk4 xs
 | _=>false
def Qk4:List D->Bool
 | []=>true
 | x::xs=>plB x && Qk4 xs
end
mutual
def dep:D->Nat
 | .tup xs=>Qr4 xs+1
 | .lst xs=>Qr4 xs+1
 | _=>0
def Qr4:List D->Nat
 | []=>0
 | x::xs=>max (dep x) (Qr4 xs)
end
mutual
theorem QG5:∀ (d:D),plB d=true -> ∃ p,d.py=some p/\p.depth=dep d
 | .non,_=>⟨.none,by unfold D.py; rfl,by simp [PyData.depth,dep]⟩
 | .int i,_=>⟨.int i,by unfold D.py; rfl,by simp [PyData.depth,dep]⟩
 | .str s,_=>⟨.str (mkS s),by unfold D.py; rfl,by simp [PyData.depth,dep]⟩
 | .tup xs,h=>by
   obtain ⟨ps,e,k⟩:=Qr5 xs (by unfold plB at h; exact h);exact ⟨.tuple ps,by unfold D.py; rw [e]; rfl,by simp [PyData.depth,dep,k]⟩
 | .lst xs,h=>by
   obtain ⟨ps,e,k⟩:=Qr5 xs (by unfold plB at h; exact h);exact ⟨.list ps,by unfold D.py; rw [e]; rfl,by simp [PyData.depth,dep,k]⟩
 | .bl _,h=>by unfold plB at h; cases h
 | .scr _,h=>by unfold plB at h; cases h
 | .obj _ _,h=>by unfold plB at h; cases h
 | .dic _ _,h=>by unfold plB at h; cases h
 | .dit _ _,h=>by unfold plB at h; cases h
 | .cls _,h=>by unfold plB at h; cases h
theorem Qr5:∀ (ds:List D),Qk4 ds=true -> ∃ ps,D.pys ds=some ps/\PyData.depthAll ps=Qr4 ds
 | [],_=>⟨[],by unfold D.pys; rfl,by simp [PyData.depthAll,Qr4]⟩
 | x::xs,h=>by
   unfold Qk4 at h;rw [Bool.and_eq_true] at h;obtain ⟨p,e1,k1⟩:=QG5 x h.1;obtain ⟨ps,e2,k2⟩:=Qr5 xs h.2;exact ⟨p::ps,by unfold D.pys; rw [e1,e2]; rfl,by simp [PyData.depthAll,Qr4,k1,k2]⟩
end
mutual
theorem Qx5:∀ (a b:D) (p q:PyData),plB a=true->plB b=true->a.py=some p->b.py=some q->(PyData.eqv p q=true↔a=b)
 | .non,b,p,q,_,hb,e1,e2=>by
   unfold D.py at e1; cases e1;cases b <;> (unfold plB at hb; first | cases hb | skip) <;> (unfold D.py at e2) <;> (first | (cases e2; simp [PyData.eqv]) | (obtain ⟨ps,_,rfl⟩:=Option.map_eq_some_iff.mp e2; simp [PyData.eqv]))
 | .int i,b,p,q,_,hb,e1,e2=>by
   unfold D.py at e1; cases e1;cases b <;> (unfold plB at hb; first | cases hb | skip) <;> (unfold D.py at e2) <;> (first | (cases e2; simp [PyData.eqv]) | (obtain ⟨ps,_,rfl⟩:=Option.map_eq_some_iff.mp e2; simp [PyData.eqv]))
 | .str s,b,p,q,_,hb,e1,e2=>by
   unfold D.py at e1; cases e1;cases b <;> (unfold plB at hb; first | cases hb | skip) <;> (unfold D.py at e2) <;> (first | (cases e2; simp [PyData.eqv]) | (obtain ⟨ps,_,rfl⟩:=Option.map_eq_some_iff.mp e2; simp [PyData.eqv]))
 | .tup xs,b,p,q,ha,hb,e1,e2=>by
   unfold plB at ha;unfold D.py at e1;obtain ⟨ps,f1,rfl⟩:=Option.map_eq_some_iff.mp e1;cases b <;> (unfold plB at hb; first | cases hb | skip) <;> (unfold D.py at e2) <;> (first | (cases e2; simp [PyData.eqv]) | (obtain ⟨qs,f2,rfl⟩:=Option.map_eq_some_iff.mp e2; simp [PyData.eqv]));exact Qv0 xs _ ps qs ha hb f1 f2
 | .lst xs,b,p,q,ha,hb,e1,e2=>by
   unfold plB at ha;unfold D.py at e1;obtain ⟨ps,f1,rfl⟩:=Option.map_eq_some_iff.mp e1;cases b <;> (unfold plB at hb; first | cases hb | skip) <;> (unfold D.py at e2) <;> (first | (cases e2; simp [PyData.eqv]) | (obtain ⟨qs,f2,rfl⟩:=Option.map_eq_some_iff.mp e2; simp [PyData.eqv]));exact Qv0 xs _ ps qs ha hb f1 f2
 | .bl _,_,_,_,h,_,_,_=>by unfold plB at h; cases h
 | .scr _,_,_,_,h,_,_,_=>by unfold plB at h; cases h
 | .obj _ _,_,_,_,h,_,_,_=>by unfold plB at h; cases h
 | .dic _ _,_,_,_,h,_,_,_=>by unfold plB at h; cases h
 | .dit _ _,_,_,_,h,_,_,_=>by unfold plB at h; cases h
 | .cls _,_,_,_,h,_,_,_=>by unfold plB at h; cases h
theorem Qv0:∀ (as bs:List D) (ps qs:List PyData),Qk4 as=true->Qk4 bs=true->D.pys as=some ps->D.pys bs=some qs->(PyData.eqvAll ps qs=true↔as=bs)
 | [],bs,ps,qs,_,hb,e1,e2=>by
   unfold D.pys at e1; cases e1;cases bs with
   | nil=>unfold D.pys at e2; cases e2; simp [PyData.eqvAll]
   | cons b bs =>
     unfold D.pys at e2;obtain ⟨q,f1,e2⟩:=Option.bind_eq_some_iff.mp e2;obtain ⟨qs',f2,e2⟩:=Option.bind_eq_some_iff.mp e2;cases e2;simp [PyData.eqvAll]
 | a :: as,bs,ps,qs,ha,hb,e1,e2=>by
   unfold Qk4 at ha;rw [Bool.and_eq_true] at ha;unfold D.pys at e1;obtain ⟨p,g1,e1⟩:=Option.bind_eq_some_iff.mp e1;obtain ⟨ps',g2,e1⟩:=Option.bind_eq_some_iff.mp e1;cases e1;cases bs with
   | nil=>unfold D.pys at e2; cases e2; simp [PyData.eqvAll]
   | cons b bs =>
     unfold Qk4 at hb;rw [Bool.and_eq_true] at hb;unfold D.pys at e2;obtain ⟨q,f1,e2⟩:=Option.bind_eq_some_iff.mp e2;obtain ⟨qs',f2,e2⟩:=Option.bind_eq_some_iff.mp e2;cases e2;rw [PyData.eqvAll,Bool.and_eq_true,Qx5 a b p q ha.1 hb.1 g1 f1,Qv0 as bs ps' qs' ha.2 hb.2 g2 f2,List.cons.injEq]
end
open Classical in
theorem Qr6 {a b:D} (ha:plB a=true) (hb:plB b=true) (da:dep a<=64) (db:dep b<=64):peq a b=some (decide (a=b)):=by
 obtain ⟨p,e1,k1⟩:=QG5 a ha;obtain ⟨q,e2,k2⟩:=QG5 b hb;unfold peq;rw [e1,e2];dsimp only;rw [if_pos ⟨by omega,by omega⟩];have:=Qx5 a b p q ha hb e1 e2
 congr 1
 rw [Bool.eq_iff_iff,this,decide_eq_true_iff]
theorem peq_ss {a b:List Nat}:peq (.str a) (.str b)=some (decide (a=b)):=by
 rw [Qr6 (by unfold plB; rfl) (by unfold plB; rfl) (by simp [dep]) (by simp [dep])];simp
theorem QG6:∀ {ys:List D} {ps:List PyData},D.pys ys=some ps->(∀ q∈ps,∃ y∈ys,y.py=some q) /\ ∀ y∈ys,∃ q∈ps,y.py=some q
 | [],ps,e=>by unfold D.pys at e; cases e; simp
 | y :: ys,ps,e=>by
   unfold D.pys at e;obtain ⟨p,f1,e⟩:=Option.bind_eq_some_iff.mp e;obtain ⟨ps',f2,e⟩:=Option.bind_eq_some_iff.mp e;cases e;obtain ⟨h1,h2⟩:=QG6 f2;refine ⟨fun q hq=>?_,fun z hz=>?_⟩
   . rcases List.mem_cons.mp hq with rfl | hq
     . exact ⟨y,Xr1,f1⟩
     . obtain ⟨z,hz,ez⟩:=h1 q hq;exact ⟨z,Xq9 _ hz,ez⟩
   . rcases List.mem_cons.mp hz with rfl | hz
     . exact ⟨p,Xr1,f1⟩
     . obtain ⟨q,hq,eq⟩:=h2 z hz;exact ⟨q,Xq9 _ hq,eq⟩
theorem QG7 {x:D}:∀ {ys:List D},Qk4 ys=true->x∈ys->plB x=true
 | [],_,h=>by cases h
 | y::ys,hp,h=>by
   unfold Qk4 at hp;rw [Bool.and_eq_true] at hp;rcases List.mem_cons.mp h with rfl | h
   . exact hp.1
   . exact QG7 hp.2 h
theorem QS1 {x:D} {p:PyData} {ys:List D} {ps:List PyData} (hx:plB x=true) (hy:Qk4 ys=true) (e1:x.py=some p) (e2:D.pys ys=some ps):(ps.any fun z=>PyData.eqv z p)=true↔x∈ys:=by
 obtain ⟨h1,h2⟩:=QG6 e2;rw [List.any_eq_true];refine ⟨fun ⟨q,hq,k⟩=>?_,fun h=>?_⟩
 . obtain ⟨y,hy',ey⟩:=h1 q hq;have:=(Qx5 y x q p (QG7 hy hy') hx ey e1).mp k;rw [<- this]; exact hy'
 . obtain ⟨q,hq,ey⟩:=h2 x h;exact ⟨q,hq,(Qx5 x x q p hx hx ey e1).mpr rfl⟩
open Classical in
theorem pyIn_l {x:D} {ys:List D} (hx:plB x=true) (hy:Qk4 ys=true) (dx:dep x<=64) (dy:Qr4 ys<64):QM1 x (.lst ys)=some (decide (x∈ys)):=by
 obtain ⟨p,e1,k1⟩:=QG5 x hx;obtain ⟨ps,e2,k2⟩:=Qr5 ys hy;have e3:(D.lst ys).py=some (.list ps):=by unfold D.py; rw [e2]; rfl
 unfold QM1;rw [e1,e3];dsimp only;rw [if_pos ⟨by omega,by rw [PyData.depth]; omega⟩]
 congr 1
 rw [Bool.eq_iff_iff,QS1 hx hy e1 e2,decide_eq_true_iff]
open Classical in
theorem pyIn_t {x:D} {ys:List D} (hx:plB x=true) (hy:Qk4 ys=true) (dx:dep x<=64) (dy:Qr4 ys<64):QM1 x (.tup ys)=some (decide (x∈ys)):=by
 obtain ⟨p,e1,k1⟩:=QG5 x hx;obtain ⟨ps,e2,k2⟩:=Qr5 ys hy;have e3:(D.tup ys).py=some (.tuple ps):=by unfold D.py; rw [e2]; rfl
 unfold QM1;rw [e1,e3];dsimp only;rw [if_pos ⟨by omega,by rw [PyData.depth]; omega⟩]
 congr 1
 rw [Bool.eq_iff_iff,QS1 hx hy e1 e2,decide_eq_true_iff]
theorem Qi3:∀ {ss:List (List Nat)},Qk4 (ss.map .str)=true
 | []=>by unfold Qk4; rfl
 | s::ss=>by rw [Xr4]; unfold Qk4; rw [Qi3]; unfold plB; rfl
theorem Qi4:∀ {ss:List (List Nat)},Qr4 (ss.map .str)=0
 | []=>by unfold Qr4; rfl
 | s::ss=>by rw [Xr4]; unfold Qr4; rw [Qi4]; unfold dep; rfl
theorem QG8 {x:List Nat} {ss:List (List Nat)}:QM1 (.str x) (.lst (ss.map .str))=some (decide (x∈ss)):=by
 rw [pyIn_l (by unfold plB; rfl) Qi3 (by simp [dep]) (by rw [Qi4]; omega)];simp
theorem at_nat {xs:List D} {n:Nat}:atD xs (n:Int)=xs[n]?:=by
 unfold atD
 by_cases h:n<xs.length
 . have:ixN xs.length (n:Int)=some n:=by
     unfold ixN;rw [if_pos (by omega),if_pos (by omega)];simp
   rw [this];rfl
 . have:ixN xs.length (n:Int)=none:=by
     unfold ixN;rw [if_pos (by omega),if_neg (by omega)]
   rw [this,List.getElem?_eq_none (by omega)];rfl
theorem at_0 {xs:List D}:atD xs 0=xs[0]?:=at_nat (n:=0)
theorem at_1 {xs:List D}:atD xs 1=xs[1]?:=at_nat (n:=1)
end Zl
end
section
namespace Zl
open PySem PySem.Spec PyProof.Rows L2
open TL
section
variable {QZ:Z->ZH->Prop} {QB:Bool->ZH->Prop} {QA:List Z->ZH->Prop} {E:ZX->ZH->Prop} {K:KS} {s:ZS} {h:ZH} {da db dc:DE} {ds:DA} {d d':DS} {ta tb:DT}
theorem Qf3 {M:Sem} {zs zs':List Z} {h0 os:ZH} {x:D} (fp:List Nat) (hfp:P0 h 40 (zs.flatMap K3) []=fp) (hc:T6 h fp zs=true) (e1:zs.map (Qk3 fp)=zs') (e2:(fp.map fun i=>QM9 fp (h.getD i .gone))=h0)
   (e:M zs' h0 = .ok (.d x) os) (hl:os.length=fp.length) (fl:os.all (fun o=>(M7 o).isEmpty)=true) (q:QZ (.d x) (Qa1 fp os h)):(J8 M zs h).wp QZ E:=by
 with_unfolding_all
   have un : ∀ (n:Nat) (o:ZO),M7 o=[]->unO fp n o=o:=by
     intro n o ho
     have key:∀ zs:List Z,zs.flatMap K3=[]->zs.map (unZ fp n)=zs:=by
       intro zs
       induction zs with
       | nil=>intro _; rfl
       | cons z zs ih =>
         intro k;rw [List.flatMap_cons,List.append_eq_nil_iff] at k;rw [Xr4,ih k.2];cases z with
         | r j=>cases k.1
         | _=>rfl
     cases o with
     | zl zs=>show ZO.zl _=_; rw [key zs ho]
     | zdic ks zs=>show ZO.zdic ks _=_; rw [key zs ho]
     | ins c fs =>
       show ZO.ins c _=_
       have : ∀ fs:List (Nat × Z),fs.flatMap (fun p=>K3 p.2)=[]->fs.map (fun p=>(p.1,unZ fp n p.2))=fs:=by
         intro zs
         induction zs with
         | nil=>intro _; rfl
         | cons z zs ih =>
           intro k;rw [List.flatMap_cons,List.append_eq_nil_iff] at k;rw [Xr4,ih k.2];obtain ⟨f,z⟩:=z;cases z with
           | r j=>cases k.1
           | _=>rfl
       rw [this fs ho]
     | _=>rfl
   have um:os.map (unO fp h.length)=os:=by
     have : ∀ l:List ZO,l.all (fun o=>(M7 o).isEmpty)=true->l.map (unO fp h.length)=l:=by
       intro l
       induction l with
       | nil=>intro _; rfl
       | cons o l ih =>
         intro k;rw [List.all_cons,Bool.and_eq_true,List.isEmpty_iff] at k;rw [Xr4,un _ o k.1,ih k.2]
     exact this os fl
   unfold J8;dsimp only;rw [hfp,if_pos hc,e1,e2,e];dsimp only;rw [wp_ok]
   have e3:Q9 fp h os=Qa1 fp os h:=by
     unfold Q9;rw [um,List.drop_of_length_le (by omega),List.map_nil,List.append_nil]
   rw [e3];exact q
theorem put_1 {i:Nat} {o:ZO}:Qa1 [i] [o] h=h.set i o:=id rfl
theorem wp_make {own:Bool} {c:Nat} {M:Sem}:(Qn2 own c M ds s h).wp QZ E=(ds s h).wp (fun zs h1=>(X0 c).isEmpty=false/\(J8 M (.r h1.length::zs) (h1++[.ins c []])).wp (fun z h2=>z = .d .non/\(Qz5 own c h1.length h2).wp QZ E)
   (fun x h2=>if Qq6 h1.length (h2.set h1.length .gone)=true then E x ((h2.set h1.length .gone).take h1.length) else E x h2)) E:=by
 with_unfolding_all
   unfold Qn2;rw [wp_bnd];refine Y5 fun zs h1=>?_;cases e:(X0 c).isEmpty with
   | true=>simp [wp_bad]
   | false =>
     simp only [Bool.false_eq_true,if_false];cases k:J8 M (.r h1.length::zs) (h1++[.ins c []]) with
     | bad=>simp [wp_bad]
     | exc x h2 =>
       simp only [wp_exc,true_and]
       split <;> simp [wp_exc]
     | ok z h2 =>
       rw [wp_ok];cases z with
       | d x=>cases x <;> simp [wp_bad]
       | r i=>simp [wp_bad]
       | e a=>simp [wp_bad]
theorem asStrs_map:∀ {ss:List (List Nat)},S8 (ss.map .str)=some ss
 | []=>rfl
 | s::ss=>by
   show (S8 (ss.map .str)).map _=_;rw [asStrs_map]; rfl
theorem asList_l {xs:List D}:B5 (.d (.lst xs)) h=some xs:=id rfl
theorem asSeq_l {xs:List D}:P7 (.d (.lst xs)) h=some xs:=id rfl
theorem wps_pair {i j:Nat} {x y:D}:(Qu5 i j (.d (.tup [x,y])) s h).wp K=K.nx ((s.set i (some (.d x))).set j (some (.d y))) h:=by with_unfolding_all exact (id rfl)
theorem in_l {n:Bool} {x:D} {ys:List D}:QC0 n (.d x) (.d (.lst ys)) h=match QM1 x (.lst ys) with
 | some k=>.ok (.d (.bl (if n then !k else k))) h
 | none=>.bad:=id rfl
theorem in_strs {n:Bool} {x:List Nat} {ys:List (List Nat)}:QC0 n (.d (.str x)) (.d (.lst (ys.map .str))) h = .ok (.d (.bl (if n then !decide (x∈ys) else decide (x∈ys)))) h:=by
 rw [in_l,QG8]
theorem G3:∀ {bs:List Bool},T8 (bs.map .bl)=some bs
 | []=>rfl
 | b::bs=>by
   show (T8 (bs.map .bl)).map _=_;rw [G3]; rfl
theorem wp_all {z:Z}:(opAll [z] h).wp QZ E=S9 (B5 z h) fun xs=>S9 (T8 xs) fun bs=>QZ (.d (.bl (bs.all id))) h:=by
 with_unfolding_all
   unfold opAll;dsimp only;cases B5 z h with
   | none=>rfl
   | some xs =>
     rw [optP_some];dsimp only;cases T8 xs <;> rfl
theorem isStr_s {t:List Nat}:isStr (.d (.str t)) h=true:=id rfl
theorem in_s {n:Bool} {c:Nat} {t:List Nat}:QC0 n (.d (.str [c])) (.d (.str t)) h = .ok (.d (.bl (if n then !decide (c∈t) else decide (c∈t)))) h:=id rfl
end
end Zl
end
section
namespace Zl
open PySem PySem.Spec PyProof.Rows L2
section
variable {h:ZH}
def setFO (f:Nat) (y:Z) (i:Nat) (s:ZS):Option ZO->ZH->OutS
 | some (.ins c fs),h=>if (X0 c).contains f && decide (fs.length<1000) then .nx s (h.set i (.ins c (Qq3 f y fs))) else .bad
 | _,_=>.bad
theorem set_r {f:Nat} {y:Z} {i:Nat} {s:ZS}:Qq5 f y (.r i) s h=setFO f y i s h[i]? h:=by
 show (match h[i]? with
   | some (.ins c fs)=>if (X0 c).contains f && decide (fs.length<1000) then OutS.nx s (h.set i (.ins c (Qq3 f y fs))) else .bad
   | _=>.bad)=_
 cases h[i]? with
 | none=>rfl
 | some o=>cases o <;> rfl
theorem setFO_i {f c:Nat} {y:Z} {i:Nat} {s:ZS} {fs:List (Nat × Z)} (hc:(X0 c).contains f=true):setFO f y i s (some (.ins c fs)) h=if fs.length<1000 then .nx s (h.set i (.ins c (Qq3 f y fs))) else .bad:=by
 show (if ((X0 c).contains f && decide (fs.length<1000))=true then _ else _)=_;rw [hc,Bool.true_and]
 by_cases q:fs.length<1000
 . rw [if_pos q,if_pos (decide_eq_true q)]
 . rw [if_neg q,if_neg (fun z=>q (of_decide_eq_true z))]
theorem putN_0 {f:Nat} {z:Z}:Qq3 f z []=[(f,z)]:=id rfl
theorem putN_s {f:Nat} {z:Z} {p:Nat × Z} {fs:List (Nat × Z)}:Qq3 f z (p::fs)=if p.1=f then (f,z)::fs else p::Qq3 f z fs:=id rfl
def fldO (f:Nat):Option ZO->Option Z
 | some (.ins _ fs)=>fs.lookup f
 | _=>none
theorem fld_r {f i:Nat}:QV4 f (.r i) h=fldO f h[i]?:=by
 show (match h[i]? with
   | some (.ins _ fs)=>fs.lookup f
   | _=>none)=_
 cases h[i]? with
 | none=>rfl
 | some o=>cases o <;> rfl
theorem fldO_i {f c:Nat} {fs:List (Nat × Z)}:fldO f (some (.ins c fs))=fs.lookup f:=id rfl
theorem lk_s {f:Nat} {p:Nat × Z} {fs:List (Nat × Z)}:(p::fs).lookup f=if f=p.1 then some p.2 else fs.lookup f:=by
 rw [List.lookup_cons]
 by_cases e:f=p.1
 . simp [e]
 . rw [if_neg e,beq_false_of_ne e]
theorem cf_17_14:(X0 Q5).contains f_cells=true:=by decide
theorem cf_17_15:(X0 Q5).contains f_saved=true:=by decide
theorem ce_17:(X0 Q5).isEmpty=false:=by decide
theorem cf_18_11:(X0 X2).contains f_names=true:=by decide
theorem cf_18_12:(X0 X2).contains f_size=true:=by decide
theorem cf_18_13:(X0 X2).contains f_current=true:=by decide
theorem ce_18:(X0 X2).isEmpty=false:=by decide
end
def QS2 (t:List Nat):List Z:=t.map fun c=>.d (.str [c])
def QX7 (d:DE):DI:=fun s h=>(d s h).bnd fun z h1=>match z with
 | .d (.str t)=>.ok ⟨QS2 t,none⟩ h1
 | _=>.bad
def Qx6 (d:DE):DI:=fun s h=>(d s h).bnd fun z h1=>match z with
 | .d (.str t)=>.ok ⟨QS2 t,none⟩ h1
 | .d (.tup xs)=>.ok ⟨xs.map .d,none⟩ h1
 | .d (.lst xs)=>.ok ⟨xs.map .d,none⟩ h1
 | .r i=>match h1[i]? with
   | some (.dl xs)=>.ok ⟨xs.map .d,some (i,.dl xs)⟩ h1
   | some (.zl zs)=>.ok ⟨zs,some (i,.zl zs)⟩ h1
   | _=>.bad
 | _=>.bad
section
variable {g:G} {F:Fr} {X:Cx} {W:WX} {e:Expr} {da:DE}
theorem zi_str {tg:Expr} (he:ZE g F X W e da):ZI g F X W tg e (QX7 da):=by
 refine PI.imp (pi_str he) fun σ H R ⟨ρ,zσ,zh,RH,RS,p⟩=>?_;refine ⟨ρ,zσ,zh,RH,RS,Post.bndI p fun ρ1 z zh1 v H1 e1 R1 rz p1=>?_⟩
 split at p1
 . rename_i t;obtain ⟨rfl,ok⟩:=rz_str.mp rz;refine ⟨_,rfl,p1 ρ1 _ H1 Ext.refl R1 trivial ?_⟩;intro F2 ρ2 zh2 H2 pre stb R2 _;have sz:(mkS t).cps.size=t.length:=by simp [mkS]
   refine ⟨fun k z hz=>?_,by show _<=_; rw [sz]; simp [QS2]⟩;unfold QS2 at hz;rw [Xq7] at hz;cases ht:t[k]? with
   | none=>rw [ht] at hz; cases hz
   | some c =>
     rw [ht] at hz;cases hz;have hk:=(Xr0.mp ht).1;refine ⟨by show _<_; rw [sz]; exact hk,fun x H3 ⟨e3,c',hc,ex⟩=>?_⟩;subst e3; subst ex;have:t[k]? = some c':=by simpa [mkS] using hc
     rw [ht] at this; cases this;exact ⟨Ext.refl,R2,rz_str.mpr ⟨rfl,fun y hy=>by rw [List.mem_singleton.mp hy]; exact ok.1 c (Xq8 ht),by rw [sizeLine_eq]; simp⟩⟩
 . exact p1.elim
theorem PI.or {tg:Expr} {t t':TI} (h:PI X tg e t) (h':PI X tg e t'):PI X tg e (fun σ H R=>t σ H R\/t' σ H R):=⟨fun pins s σ H R I q=>q.elim (h.run pins s σ H R I) (h'.run pins s σ H R I)⟩
theorem Qi5 {tg:Expr} (hK:X.K=g.K) (he:ZE g F X W e da):ZI g F X W tg e (Qx6 da):=by
 refine PI.imp (PI.or (zi_str he) (PI.or (zi_tup hK he) (QV2 hK he))) fun σ H R ⟨ρ,zσ,zh,RH,RS,p⟩=>?_;cases k:da zσ zh with
 | bad=>unfold Qx6 at p; rw [k] at p; exact p.elim
 | exc x h'=>exact .inl ⟨ρ,zσ,zh,RH,RS,by unfold Qx6 at p; rw [k] at p; unfold QX7; rw [k]; exact p⟩
 | ok z h1 =>
   unfold Qx6 at p;rw [k] at p;cases z with
   | d x =>
     cases x with
     | str t=>exact .inl ⟨ρ,zσ,zh,RH,RS,by unfold QX7; rw [k]; exact p⟩
     | tup t=>exact .inr (.inl ⟨ρ,zσ,zh,RH,RS,by unfold iTupI; rw [k]; exact p⟩)
     | lst t=>exact .inr (.inr ⟨ρ,zσ,zh,RH,RS,by unfold iSeq; rw [k]; exact p⟩)
     | _=>exact p.elim
   | r i=>exact .inr (.inr ⟨ρ,zσ,zh,RH,RS,by unfold iSeq; rw [k]; exact p⟩)
   | e a=>exact p.elim
end
section
variable {E:ZX->ZH->Prop} {s:ZS} {h:ZH} {da:DE}
def QO0 (z:Z) (h:ZH):Option ZIt:=match z with
 | .d (.str t)=>some ⟨QS2 t,none⟩
 | .d (.tup xs)=>some ⟨xs.map .d,none⟩
 | .d (.lst xs)=>some ⟨xs.map .d,none⟩
 | .r i=>itO i h[i]?
 | _=>none
theorem itAny_s {t:List Nat}:QO0 (.d (.str t)) h=some ⟨QS2 t,none⟩:=id rfl
theorem itAny_l {t:List D}:QO0 (.d (.lst t)) h=some ⟨t.map .d,none⟩:=id rfl
theorem itAny_r {i:Nat}:QO0 (.r i) h=itO i h[i]?:=id rfl
theorem wp_iany {Q:ZIt->ZH->Prop}:(Qx6 da s h).wp Q E=(da s h).wp (fun z h1=>S9 (QO0 z h1) fun it=>Q it h1) E:=by
 with_unfolding_all
   unfold Qx6;rw [wp_bnd];refine Y5 fun z h1=>?_;cases z with
   | d x=>cases x <;> rfl
   | r i =>
     rw [itAny_r];dsimp only;cases h1[i]? with
     | none=>rfl
     | some o=>cases o <;> rfl
   | e a=>rfl
theorem QX8 {t:List Nat}:QS2 t=(t.map fun c=>D.str [c]).map .d:=by unfold QS2; rw [List.map_map]; rfl
theorem keep_f {xs:List D}:K1 .frz (xs.map .d) h = .ok (.d (.lst xs)) h:=by
 unfold K1;rw [Qn9]
theorem QS3 {xs:List D}:K1 .own (xs.map .d) h = .ok (.r h.length) (h++[.dl xs]):=by
 unfold K1;rw [Qn9]
theorem lcL {α:Type} {gd:ZH->Prop} {t:Z->ZS} {tt:DT} {de:DE} (a:α->D) (p:α->Bool) (f:α->D) (g0:gd h) {xs:List α} (hl:xs.length<=1000000) (ht:∀ x∈xs,tt (t (.d (a x))) h = .ok (p x) h) (hd:∀ x∈xs,p x=true->de (t (.d (a x))) h = .ok (.d (f x)) h) :
   K8 gd t tt de ((xs.map a).map .d) h [] = .ok (((xs.filter p).map f).map .d) h:=by
 suffices H:∀ (ys:List α) (acc:List Z),(∀ x∈ys,x∈xs)->acc.length+ys.length<=1000000->K8 gd t tt de ((ys.map a).map .d) h acc = .ok (acc++((ys.filter p).map f).map .d) h from by
   have:=H xs [] (fun _ h=>h) (by simpa using hl);simpa using this
 intro ys
 induction ys with
 | nil=>intro acc _ _; simp [K8]
 | cons y ys ih =>
   intro acc hs hl;have hy:=hs y Xr1;rw [Xr4,Xr4];unfold K8;rw [ht y hy];cases e:p y with
   | true =>
     dsimp only;rw [hd y hy e];dsimp only;rw [if_pos ⟨g0,by simp at hl; omega⟩,ih (acc++[Z.d (f y)]) (fun x hx=>hs x (Xq9 _ hx)) (by simp at hl ⊢; omega)];simp [List.filter_cons,e]
   | false =>
     dsimp only;rw [if_pos g0,ih acc (fun x hx=>hs x (Xq9 _ hx)) (by simp at hl ⊢; omega)];simp [List.filter_cons,e]
theorem lcF {α:Type} {QZ:Z->ZH->Prop} {gd:ZH->Prop} {t:Z->ZS} {tt:DT} {de:DE} (a:α->D) (p:α->Bool) (f:α->D) {xs:List α} (g0:gd h) (hl:xs.length<=1000000) (ht:∀ x∈xs,(tt (t (.d (a x))) h).wp (fun b h1=>b=p x/\h1=h) fun _ _=>False)
   (hd:∀ x∈xs,p x=true->(de (t (.d (a x))) h).wp (fun z h1=>z = .d (f x)/\h1=h) fun _ _=>False) (q:QZ (.d (.lst ((xs.filter p).map f))) h) :
   (K8 gd t tt de ((xs.map a).map .d) h []).wp (fun zs h2=>(K1 .frz zs h2).wp QZ E) E:=by
 with_unfolding_all
   rw [lcL a p f g0 hl (fun x hx=>K5 (ht x hx)) (fun x hx e=>K5 (hd x hx e)),wp_ok,keep_f,wp_ok];exact q
theorem lcF0 {α:Type} {QZ:Z->ZH->Prop} {gd:ZH->Prop} {t:Z->ZS} {de:DE} (a:α->D) (f:α->D) {xs:List α} (g0:gd h) (hl:xs.length<=1000000)
   (hd:∀ x∈xs,(de (t (.d (a x))) h).wp (fun z h1=>z = .d (f x)/\h1=h) fun _ _=>False) (q:QZ (.d (.lst (xs.map f))) h) :
   (K8 gd t tYesZ de ((xs.map a).map .d) h []).wp (fun zs h2=>(K1 .frz zs h2).wp QZ E) E:=by
 with_unfolding_all
   refine lcF a (fun _=>true) f g0 hl (fun x hx=>?_) (fun x hx _=>hd x hx) (by rw [show xs.filter (fun _=>true)=xs from List.filter_eq_self.mpr fun _ _=>rfl]; exact q);show (Out.ok true h).wp _ _;rw [wp_ok];exact ⟨rfl,rfl⟩
end
theorem nc_6:((6:Nat):Int)=6:=id rfl
section
variable {g:G} {U:Addr->Prop} {H:Hp}
theorem RDs.setN:∀ {n:Nat} {xs:List D} {vs:List V} {x:D} {v:V},RDs g U H xs vs->RD g U H x v->RDs g U H (xs.set n x) (vs.set n v)
 | n,[],vs,_,_,r,_=>by rw [rds_nil.mp r]; exact rds_nil.mpr rfl
 | 0,x::xs,vs,_,_,r,k=>by
   obtain ⟨v,vs',rfl,q1,q⟩:=rds_cons.mp r;exact rds_cons.mpr ⟨_,_,rfl,k,q⟩
 | n+1,x::xs,vs,_,_,r,k=>by
   obtain ⟨v,vs',rfl,q1,q⟩:=rds_cons.mp r;exact rds_cons.mpr ⟨v,_,rfl,q1,RDs.setN q k⟩
theorem RZs.setN {ρ:List Addr}:∀ {n:Nat} {xs:List Z} {vs:List V} {x:Z} {v:V},RZs g U H ρ xs vs->RZ g U H ρ x v->RZs g U H ρ (xs.set n x) (vs.set n v)
 | n,[],vs,_,_,r,_=>by rw [show vs=[] from r]; rfl
 | 0,x::xs,vs,_,_,⟨v,vs',e,q1,q⟩,k=>by rw [e]; exact ⟨_,_,rfl,k,q⟩
 | n+1,x::xs,vs,_,_,⟨v,vs',e,q1,q⟩,k=>by rw [e]; exact ⟨v,_,rfl,q1,RZs.setN q k⟩
end
section
variable {g:G} {F:Fr} {X:Cx} {W:WX} {a b c e o:Expr} {es:List Expr} {da db dc:DE} {d:DA} {pos apos cpos:Pos}
def Qo3 (v x y:Z) (s:ZS) (h:ZH):OutS:=match x,y with
 | .r i,.d (.int k)=>match h[i]? with
   | some (.dl xs)=>match v with
     | .d w=>match ixN xs.length k with
       | some j=>.nx s (h.set i (.dl (xs.set j w)))
       | none=>.bad
     | _=>.bad
   | some (.zl xs)=>match ixN xs.length k with
     | some j=>.nx s (h.set i (.zl (xs.set j v)))
     | none=>.bad
   | _=>.bad
 | _,_=>.bad
def QS4 (da db:DE):DG:=fun v s h=>(da s h).bndS s fun x h1=>(db s h1).bndS s fun y h2=>Qo3 v x y s h2
theorem Qi6 {o:Out Z} {s:ZS} {f:Z->ZH->OutS} (hf:∀ z h,(∀ z' h',f z h ≠ .rt z' h')/\(∀ s' h',f z h ≠ .bk s' h') /\ ∀ s' h',f z h ≠ .ct s' h'):(∀ z' h',o.bndS s f ≠ .rt z' h')/\(∀ s' h',o.bndS s f ≠ .bk s' h') /\ ∀ s' h',o.bndS s f ≠ .ct s' h':=by
 cases o with
 | ok z h=>exact hf z h
 | exc x h=>exact ⟨(fun _ _ q=>nomatch q),(fun _ _ q=>nomatch q),(fun _ _ q=>nomatch q)⟩
 | bad=>exact ⟨(fun _ _ q=>nomatch q),(fun _ _ q=>nomatch q),(fun _ _ q=>nomatch q)⟩
theorem QO1 {v x y:Z} {s:ZS} {h:ZH}:(∀ z' h',Qo3 v x y s h ≠ .rt z' h')/\(∀ s' h',Qo3 v x y s h ≠ .bk s' h') /\ ∀ s' h',Qo3 v x y s h ≠ .ct s' h':=by
 unfold Qo3
 split
 . split
   . split
     . split <;> exact ⟨(fun _ _ q=>nomatch q),(fun _ _ q=>nomatch q),(fun _ _ q=>nomatch q)⟩
     . exact ⟨(fun _ _ q=>nomatch q),(fun _ _ q=>nomatch q),(fun _ _ q=>nomatch q)⟩
   . split <;> exact ⟨(fun _ _ q=>nomatch q),(fun _ _ q=>nomatch q),(fun _ _ q=>nomatch q)⟩
   . exact ⟨(fun _ _ q=>nomatch q),(fun _ _ q=>nomatch q),(fun _ _ q=>nomatch q)⟩
 . exact ⟨(fun _ _ q=>nomatch q),(fun _ _ q=>nomatch q),(fun _ _ q=>nomatch q)⟩
theorem Qv1 {da db:DE}:GOk (QS4 da db):=fun v s h=>Qi6 fun x h1=>Qi6 fun y h2=>QO1
theorem QG9 {ρ:List Addr} {zσ:ZS} {zh:ZH} {σ:L2.St} {H:Hp} {D:Ends} {zv zx zy:Z} {v x y:V} (RH:RelH g F ρ zh H) (RS:RelS g (UO F ρ zh) H ρ zσ σ) (rv:RZ g (UO F ρ zh) H ρ zv v) (rx:RZ g (UO F ρ zh) H ρ zx x) (ry:RZ g (UO F ρ zh) H ρ zy y) (p:PostS g F W ρ zh H (Qo3 zv zx zy zσ zh) D):rSetL x y v H fun H'=>D.nx σ H':=by
 unfold Qo3 at p
 split at p
 . rename_i i k;obtain ⟨a,h1,rfl⟩:=rx;have ek:y = .int k:=rz_int.mp ry
   split at p
   . rename_i xs hz;obtain ⟨us,q,r⟩:=RH.own i a _ h1 hz
     split at p
     . rename_i w;cases kj:ixN xs.length k with
       | none=>rw [kj] at p; exact p.elim
       | some j =>
       rw [kj] at p;refine ⟨a,us,k,j,rfl,ek,q,by rw [r.length]; exact kj,?_⟩
       have s:Stb (UO F ρ zh) H (UO F ρ (zh.set i (.dl (xs.set j w)))) (upd H a (.lst (us.set j v))):=fun b u e nub =>
         ⟨by rw [upd_ne (fun z:b=a=>nub (by rw [z]; exact .inr ⟨i,_,h1,hz,rfl⟩))]; exact e,fun z=>nub (Ql8 z ⟨_,hz,rfl⟩)⟩
       obtain ⟨R',e⟩:=RH.set (o:=.lst (us.set j v)) (zo':=.dl (xs.set j w)) h1 hz rfl ⟨_,upd_same,(RDs.mono s _ _ r).setN (RD.mono s _ _ rv)⟩;exact p ρ σ _ e R' (RS.mono e)
     . exact p.elim
   . rename_i xs hz;obtain ⟨us,q,r⟩:=RH.own i a _ h1 hz;cases kj:ixN xs.length k with
     | none=>rw [kj] at p; exact p.elim
     | some j =>
       rw [kj] at p;refine ⟨a,us,k,j,rfl,ek,q,by rw [r.length]; exact kj,?_⟩
       have s:Stb (UO F ρ zh) H (UO F ρ (zh.set i (.zl (xs.set j zv)))) (upd H a (.lst (us.set j v))):=fun b u e nub =>
         ⟨by rw [upd_ne (fun z:b=a=>nub (by rw [z]; exact .inr ⟨i,_,h1,hz,rfl⟩))]; exact e,fun z=>nub (Ql8 z ⟨_,hz,rfl⟩)⟩
       obtain ⟨R',e⟩:=RH.set (o:=.lst (us.set j v)) (zo':=.zl (xs.set j zv)) h1 hz rfl ⟨_,upd_same,(RZs.mono s (Xr5 _) r).setN (RZ.mono s (Xr5 _) rv)⟩;exact p ρ σ _ e R' (RS.mono e)
   . exact p.elim
 . exact p.elim
theorem QH0 {i:Expr} (ho:ZE g F X W o da) (hi:ZE g F X W i db) (ha:∀ v,assign (.Subscript o i pos) X.env v=(do
      let ov <- holding [v] (eval o X.env)
      let iv <- holding [v,ov] (eval i X.env)
      standAt pos
      holding [v,ov,iv] (setItem ov iv v)
      release [v,ov,iv] []):=by intro _; rfl):ZG g F X W (.Subscript o i pos) (QS4 da db):=by
  refine PG.imp (pg_sub ho hi set_list ha) fun v σ H Q ⟨ρ,zσ,zh,z,RH,RS,rz,p⟩=>?_;refine ⟨ρ,zσ,zh,RH,RS,Post.bndS RS p fun ρ1 x zh1 vx H1 e1 R1 rx p1=>?_⟩;refine ⟨ρ1,zσ,zh1,R1,RS.mono e1,Post.bndS (RS.mono e1) p1 fun ρ2 y zh2 vy H2 e2 R2 ry p2=>?_⟩;exact QG9 R2 ((RS.mono e1).mono e2) (RZ.mono (e1.trans e2).stb (e1.trans e2).pre rz) (RZ.mono e2.stb e2.pre rx) ry p2
end
open TL
section
variable {g:G} {F:Fr} {X:Cx} {W:WX} {a b c e o:Expr} {es:List Expr} {da db dc:DE} {d:DA} {pos apos cpos:Pos} {st:Stmt} {sts:List Stmt}
theorem QX9 {n:Int} {j:Nat} {p1 p2:Pos}:ZE g F X W (.UnaryOp .USub (.Constant (.int n) j p1) p2) (dC (.int (-n))) :=
 PE.imp (pe_un un_neg pe_int) fun σ H Q ⟨ρ,zσ,zh,RH,RS,p⟩=>⟨n,rfl,Post.done RH p (rz_int.mpr rfl)⟩
end
end Zl
end
section
namespace Zl
open PySem PySem.Spec PyProof.Rows L2
theorem K9:∀ (names:List (Str × NameKind)) (n:Nat) (acc:List (Str × Addr)),cellsFrom n names acc=cellsFrom n names []++acc
 | [],_,_=>rfl
 | (name,kind)::r,n,acc=>by
   unfold cellsFrom
   split
   . rw [K9 r (n+1) ((name,n)::acc),K9 r (n+1) [(name,n)],List.append_assoc];rfl
   . exact K9 r n acc
section
variable {M:Model} {A:Around} {E:Value->Shared->Prop} {s s0:Shared}
theorem G4 {own clo:List (Str × Addr)} {env:Env} (hE:env.cells=own++clo) (f:Str × Value->PUnit->PySem.Sem (ForInStep PUnit)) (hf:∀ n v u,f (n,v) u=(do storeName env n v; pure (.yield ⟨⟩))) (hk:env.scope.kind = .function) :
   ∀ (bs:List (Str × Value)) (m cm:Str->Option Value) (s:Shared) (Q:PUnit->Shared->Prop),InCallC s0 env.locals m own cm s ->
     (∀ x∈bs,env.kindOf x.1=some .local\/(env.kindOf x.1=some .cell /\ ∃ c,own.lookup x.1=some c)) ->
     (∀ s',InCallC s0 env.locals (bindL env.kindOf bs m) own (bindC env.kindOf bs cm) s'->Q ⟨⟩ s')->wpAny M A (forIn bs ⟨⟩ f) Q E s
 | [],m,cm,s,Q,x,_,h=>by
   rw [List.forIn_nil];exact wpAny_pure (h s x)
 | (n, v)::r,m,cm,s,Q,x,hkind,h=>by
   rw [List.forIn_cons,hf];have hr:=fun y (hy:y∈r)=>hkind y (Xq9 _ hy)
   have bump:∀ {q:Addr},s0.heap.objs.size<=q -> ∀ h',Heap.SameBut q s.heap h'->(∀ t1,∃ h2 t2,({ s with heap:=h',toks:=t1 }:Shared)={ s0 with heap:=h2,toks:=t2 }) /\ ∀ b o,s0.heap.get? b=some o->h'.get? b=some o:=fun {q} lq h' hs=>by
     obtain ⟨h1,tk,rfl⟩:=x.toInCall.same;exact ⟨fun _=>⟨h',_,rfl⟩,fun b o e=>hs.extBut b o (Nat.ne_of_lt (Nat.lt_of_lt_of_le (Heap.lt_size e) lq)) (x.toInCall.keep b o e)⟩
   rcases hkind (n,v) Xr1 with hl | ⟨hl,c,hc⟩
   . refine wpAny_bind (wpAny_bind (wpAny_storeName_local hl x.toInCall.ns (fun h' hn hs=>wpAny_pure (G4 hE f hf hk r _ _ _ Q ⟨⟨(bump x.toInCall.fresh h' hs).1 _,hn,(bump x.toInCall.fresh h' hs).2,x.toInCall.fresh⟩,fun k c hc=>(x.cell k c hc).sameBut hs (Nat.ne_of_gt (x.above k c (mem_of_lookup hc))),x.apart,x.above⟩ hr fun s'' x''=>h s'' ?_)) (by rw [hk]; rfl)));unfold bindL bindC;rw [if_pos hl,if_pos hl];exact x''
   . have hnl:¬ env.kindOf n=some .local:=by rw [hl]; decide
     have hLc:env.locals<c:=x.above n c (mem_of_lookup hc);have hEc:env.cells.lookup n=some c:=by rw [hE,List.lookup_append,hc]; rfl
     have lc:s0.heap.objs.size<=c:=Nat.le_of_lt (Nat.lt_of_le_of_lt x.toInCall.fresh hLc);refine wpAny_bind (wpAny_bind (wpAny_storeName_cell hk hl hEc (x.cell n c hc) fun h' hc' hs=>wpAny_pure (G4 hE f hf hk r _ (fun y=>if y=n then some v else cm y) _ Q ⟨⟨(bump lc h' hs).1 _,x.toInCall.ns.sameBut hs (Nat.ne_of_lt hLc),(bump lc h' hs).2,x.toInCall.fresh⟩,fun k c' hk'=>?_,x.apart,x.above⟩ hr fun s'' x''=>h s'' ?_)))
     . by_cases hkn:k=n
       . subst hkn;rw [hc] at hk';cases hk';simpa using hc'
       . rw [if_neg hkn];exact (x.cell k c' hk').sameBut hs fun e=>hkn (name_of_addr x.apart (mem_of_lookup hk') (e ▸ mem_of_lookup hc))
     . unfold bindL bindC;rw [if_neg hnl,if_neg hnl];exact x''
theorem QY0 {scope:Scope} {globals:Addr} {clo:List (Str × Addr)} {bs:List (Str × Value)} {qual:Str} {func:Option Addr} {code:Value} {builtins:Addr} {Q:Env->Shared->Prop}
   (hk:scope.kind = .function)
   (hkind:∀ x∈bs,scope.names.lookup x.1=some .local\/(scope.names.lookup x.1=some .cell /\ ∃ c,(cellsFrom (s.heap.objs.size+1) scope.names []).lookup x.1=some c))
   (hQ:∀ env,env=newEnv scope s.heap.objs.size globals (cellsFrom (s.heap.objs.size+1) scope.names []++clo) qual func code none builtins ->
     ∀ s',InCallC s env.locals (bindL env.kindOf bs fun _=>none) (cellsFrom (s.heap.objs.size+1) scope.names []) (bindC env.kindOf bs fun _=>none) s'->Q env s') :
   wpAny M A (newFunctionEnv scope globals clo bs qual func code none builtins) Q E s:=by
 simp only [newFunctionEnv,Option.isSome_none,Bool.false_eq_true,if_false];refine wpAny_bind (wpAny_alloc ?_);refine wpAny_bind (wpAny_layCells _ (fun name kind cells=>by cases hkc:kind == NameKind.cell <;> simp [hkc]) _ _ _ _ ?_);have ok:=cellsFrom_ok scope.names (s.heap.push { cls:=.type "frame",data:=.dict #[] }) (s.heap.objs.size+1) [] ⟨fun _ _ hm=>(nomatch hm),List.Pairwise.nil⟩ (by rw [Heap.size_push]; exact Nat.le_refl _);rw [Heap.size_push] at ok;rw [show ({ s with heap:=s.heap.push { cls:=.type "frame",data:=.dict #[] } }:Shared).heap.objs.size=s.heap.objs.size+1 from Heap.size_push ..,K9]
 refine wpAny_bind (G4 (s0:=s) (own:=cellsFrom (s.heap.objs.size+1) scope.names []) (clo:=clo) (env:=newEnv scope s.heap.objs.size globals (cellsFrom (s.heap.objs.size+1) scope.names []++clo) qual func code none builtins)
   rfl _ (fun _ _ _=>rfl) hk bs (fun _=>none) (fun _=>none) _ _
   ⟨⟨⟨_,_,rfl⟩,(Heap.Ns.new s.heap (.type "frame")).keeps (pushCells_keeps _ _),fun b o e=>pushCells_keeps _ _ b o (Heap.get?_push_of_some _ e),Nat.le_refl _⟩,
     fun n c hc=>(ok.empty n c (mem_of_lookup hc)).1,ok.apart,fun n c hm=>(ok.empty n c hm).2⟩
   hkind fun s' x=>wpAny_pure (hQ _ rfl s' x))
end
structure SupScope (N P:List Str) (sc:Scope):Prop where
 kind:sc.kind = .function
 co:sc.isCoroutine=false
 gen:sc.isGenerator=false
 nd:N.Nodup
 pre:N.take P.length=P
 par:∀ x∈P,sc.names.lookup x=some .local\/sc.names.lookup x=some .cell
 free:∀ y∈sc.names,y.2 = .free->y.1=("__class__" : Str)
 ncl:sc.names.lookup ("__class__" : Str)=some .free
 nc:∀ y∈sc.names,y.2 = .cell->y.1≠("__class__" : Str)
abbrev QO2 (qual:Str) (scope:Scope) (L f:Addr) (cd:Value) (cc:Addr):Env:=PySem.W.envX qual scope L f cd (cellsFrom (L+1) scope.names []++[(("__class__" : Str),cc)])
def cxS (P:Program) (w:World) (K:UZ9) (mg:Str->Option Value) (base:Heap) (N:List Str) (qual:Str) (scope:Scope) (f:Addr) (cd:Value) (cc:Addr) (A:Around) (outer:List Env) (s:Shared) (H:Hp) (E:XK):Cx where
 prog:=P
 w:=w
 K:=K
 mg:=mg
 base:=base
 A:=A.deeper (QO2 qual scope s.heap.objs.size f cd cc)
 N:=N
 s_0:=s
 H_0:=H
 env:=QO2 qual scope s.heap.objs.size f cd cc
 outer:=outer
 stack:=QO2 qual scope s.heap.objs.size f cd cc::outer
 ex:=[]
 calm:=true
 fn:=fun x=>x != ("__class__" : Str)
 pn:=[]
 xe:=fun e s'=>wpAny (model P w) (A.deeper (QO2 qual scope s.heap.objs.size f cd cc)) (leaving (QO2 qual scope s.heap.objs.size f cd cc) e) (fun _ s''=>L2.CX P w outer H s E e s'') (fun e' s''=>L2.CX P w outer H s E e' s'') s'
theorem Qd9 {l:List (Str × Addr)} {cc:Addr} (h:l.lookup ("__class__" : Str)=none):(l++[(("__class__" : Str),cc)]).lookup ("__class__" : Str)=some cc:=by
 rw [List.lookup_append,h];simp [List.lookup]
theorem T9:∀ {names:List (Str × NameKind)} {n:Nat} {x:Str} {c:Addr},(x,c)∈cellsFrom n names []->(x,NameKind.cell)∈names
 | [],_,_,_,h=>by cases h
 | (name,kind)::r,n,x,c,h=>by
   unfold cellsFrom at h
   split at h
   . rename_i hk;rw [K9] at h;rcases List.mem_append.mp h with h | h
     . exact Xq9 _ (T9 h)
     . have e:(x,c)=(name,n):=by simpa using h
       cases e;have:kind=NameKind.cell:=by simpa using hk
       rw [this];exact Xr1
   . exact Xq9 _ (T9 h)
section
variable {P:Program} {w:World} {K:UZ9} {mg:Str->Option Value} {base:Heap} {N ps:List Str} {qual:Str} {scope:Scope} {f cc D:Addr} {cd:Value} {A:Around} {outer:List Env} {s s1:Shared} {H:Hp} {E:XK} {us:List Value} {vs:List V}
def Qi7 (K:UZ9) (cc D:Addr):Prop:=∃ cl cld csl,K.lookup cc=some ⟨cl,cld,.cell (some (.ref D)),csl⟩
theorem QH1 (S:SupScope N ps scope) {n:Nat} {c:Addr} (m:(("__class__" : Str),c)∈cellsFrom n scope.names []):False:=S.nc _ (T9 m) rfl rfl
theorem Qx7 (S:SupScope N ps scope) (n:Nat):(cellsFrom n scope.names []).lookup ("__class__" : Str)=none:=by
 cases e:(cellsFrom n scope.names []).lookup ("__class__" : Str) with
 | none=>rfl
 | some c=>exact (QH1 S (PySem.mem_of_lookup e)).elim
theorem T1 {l:List (Str × Addr)} {y:Str} {c:Addr} (h:(l++[(("__class__" : Str),cc)]).lookup y=some c):l.lookup y=some c\/(l.lookup y=none/\y=("__class__" : Str)/\c=cc):=by
 rw [List.lookup_append] at h;cases e:l.lookup y with
 | some c' =>
   rw [e] at h;exact .inl h
 | none =>
   rw [e] at h;have h:[(("__class__" : Str),cc)].lookup y=some c:=h;rw [List.lookup_cons] at h
   split at h
   . rename_i hb;exact .inr ⟨rfl,beq_iff_eq.mp hb,(Option.some.inj h).symm⟩
   . cases h
theorem Qr7 {l:List (Str × Addr)} {y:Str} {c:Addr} (e:l.lookup y=some c):(l++[(("__class__" : Str),cc)]).lookup y=some c:=by
 rw [List.lookup_append,e];rfl
theorem QA4 (S:SupScope N ps scope) (CC:Qi7 K cc D) (hd:A.handled=none) (e0:Env0 P w K mg base A outer s H) (hl:vs.length=ps.length) (r:Vals vs us)
   (x:InCallC s s.heap.objs.size (bindL (QO2 qual scope s.heap.objs.size f cd cc).kindOf (ps.zip us) fun _=>none) (cellsFrom (s.heap.objs.size+1) scope.names []) (bindC (QO2 qual scope s.heap.objs.size f cd cc).kindOf (ps.zip us) fun _=>none) s1) :
   Inv (cxS P w K mg base N qual scope f cd cc A outer s H E) [] (L2.start N vs) H s1:=by
 have hpl:ps.length<=N.length:=by
   have q:=congrArg List.length S.pre;rw [List.length_take] at q;omega
 obtain ⟨h1,tk,rfl,hk⟩:=x.done;obtain ⟨cl,cld,csl,lc⟩:=CC;have bcc:=e0.mod.kin _ _ lc;obtain ⟨scc,hcc⟩:=e0.bs _ _ bcc;have ltc:cc<s.heap.objs.size:=Heap.lt_size scc;have no:∀ b:Addr,b∉(cxS P w K mg base N qual scope f cd cc A outer s H E).ex:=fun b z=>absurd (show b∈([]:List Addr) from z) (by simp);have ab:∀ {y:Str} {c:Addr},(cellsFrom (s.heap.objs.size+1) scope.names []).lookup y=some c->s.heap.objs.size<c:=fun {y c} e=>x.above y c (PySem.mem_of_lookup e)
 refine ⟨⟨e0.mod,S.kind,rfl,rfl,Nat.le_refl _,fun y z c q1 q2=>?_,fun y hy=>?_,fun y c hy q=>?_,fun _=>hd,Around.frames_deeper e0.frames,.inr ⟨rfl,rfl⟩,fun b z=>absurd z (no b),e0.bs,e0.bsz,fun b _ _=>no b,fun b z=>absurd z (no b),e0.funs,e0.frf⟩,
   rfl,e0.bare,Un.kept hk,⟨_,x.toInCall.ns,fun i y v q1 q2 q3=>?_⟩,fun y c q=>?_,e0.hok.fresh (Nat.le_refl _),fun y c q=>?_,fun p hp=>absurd (show p∈([]:List (Addr × Obj)) from hp) (by simp),e0.hok.kept hk,?_⟩
 . rcases T1 q1 with a1 | ⟨_,rfl,rfl⟩ <;> rcases T1 q2 with a2 | ⟨_,rfl,e2⟩
   . exact name_of_addr x.apart (PySem.mem_of_lookup a1) (PySem.mem_of_lookup a2)
   . exact absurd (Nat.lt_trans (by rw [e2] at a1; exact ab a1) ltc) (Nat.lt_irrefl _)
   . exact absurd (Nat.lt_trans (ab a2) ltc) (Nat.lt_irrefl _)
   . rfl
 . have hy:scope.names.lookup y=some .cell\/scope.names.lookup y=some .free:=hy;rcases hy with hy | hy
   . obtain ⟨c,e⟩:=cell_has (n:=s.heap.objs.size+1) hy;exact ⟨c,Qr7 e⟩
   . have ey:=S.free _ (PySem.mem_of_lookup hy) rfl;have ey:y=("__class__" : Str):=ey;subst ey;exact ⟨cc,Qd9 (Qx7 S _)⟩
 . rcases T1 q with a1 | ⟨_,rfl,_⟩
   . exact Nat.le_of_lt (ab a1)
   . have hy:(("__class__" : Str) != ("__class__" : Str))=true:=hy;simp at hy
 . have hi:i<vs.length:=by
     unfold L2.start at q2
     by_cases hi:i<vs.length
     . exact hi
     . rw [List.getElem?_append_right (by simpa using hi),List.getElem?_replicate] at q2
       split at q2 <;> cases q2
   have ha:vs[i]? = some v:=by
     unfold L2.start at q2;rw [Xr2 (by simpa using hi),Xq7] at q2;cases e:vs[i]? with
     | none=>rw [e] at q2; cases q2
     | some a=>rw [e] at q2; cases q2; rfl
   obtain ⟨u,hu,rv⟩:=r.get ha
   have hp:ps[i]? = some y:=by
     rw [<- S.pre,List.getElem?_take_of_lt (by omega)];exact q1
   have ndP:ps.Nodup:=by
     rw [<- S.pre];exact S.nd.sublist (List.take_sublist _ _)
   refine ⟨u,rv,?_⟩;rcases S.par y (Xq8 hp) with k | k
   . exact .inl ⟨k,bindL_get ndP hp hu k⟩
   . obtain ⟨c,e⟩:=cell_has (n:=s.heap.objs.size+1) k;refine .inr ⟨.inl k,c,Qr7 e,?_⟩;have q:=x.cell y c e;rw [bindC_get ndP hp hu (by show scope.names.lookup y≠_; rw [k]; decide)] at q;exact q
 . rcases T1 q with a1 | ⟨_,_,rfl⟩
   . exact ⟨_,x.cell y c a1⟩
   . exact ⟨some (.ref D),_,hk _ _ scc,rfl⟩
 . rcases T1 q with a1 | ⟨_,_,rfl⟩
   . exact e0.hok.fresh (Nat.le_of_lt (ab a1))
   . exact hcc
 . unfold L2.start;show _=N.length;rw [List.length_append,Xq5,List.length_replicate];omega
end
structure PSA (X:Cx) (c:Code) (st:Stmt) (t:TS):Prop where
 run:∀ (pins:List (Addr × Obj)) (s:Shared) (σ:L2.St) (H:Hp) (D:Ends),Inv X pins σ H s->t D σ H->PySem.wpAt (model X.prog X.w) X.A c (exec st X.env) (SP X pins D) X.xe s
structure PSsA (X:Cx) (c:Code) (sts:List Stmt) (t:TS):Prop where
 run:∀ (pins:List (Addr × Obj)) (s:Shared) (σ:L2.St) (H:Hp) (D:Ends),Inv X pins σ H s->t D σ H->PySem.wpAt (model X.prog X.w) X.A c (execs sts X.env) (SP X pins D) X.xe s
section
variable {X:Cx} {c:Code} {st:Stmt} {sts:List Stmt} {t u:TS}
theorem PSA.of (h:PS X st t):PSA X c st t:=⟨fun pins s σ H D I q=>wpAt_of_wpAny (h.run pins s σ H D I q)⟩
theorem PSsA.of (h:PSs X sts t):PSsA X c sts t:=⟨fun pins s σ H D I q=>wpAt_of_wpAny (h.run pins s σ H D I q)⟩
theorem PSsA.cons (h1:PSA X c st t) (h2:PSsA X c sts u):PSsA X c (st::sts) (tSeq t u):=by
 refine ⟨fun pins s σ H D I h=>?_⟩;refine ks_wpAt_execs_cons (PySem.wpAt_mono (h1.run pins s σ H { D with nx:=u D } I h) (fun fl s1 q=>?_) fun _ _ z=>z);cases fl with
 | next =>
   obtain ⟨σ',H',I',q⟩:=q;exact h2.run pins s1 σ' H' D I' q
 | ret v=>exact q
 | brk=>exact q
 | cont=>exact q
end
section
variable {P:Program} {w:World} {K:UZ9} {mg:Str->Option Value} {base:Heap} {k:Nat} {f cc D:Addr} {name qual:Str} {params:Arguments} {body:List Stmt} {scope:Scope} {dV kV doc pm cdv ct oc:Value} {an od:Option Addr} {osl:Array (Option Value)} {N ps:List Str} {sp:Sp}
theorem fn_ofS (lk:K.lookup f=some ⟨oc,od,.func (PySem.W.ksFn name qual params body scope dV kV doc pm an cdv ct cc),osl⟩) (hcd:PySem.W.codeIn K cdv qual=true) (CC:Qi7 K cc D) (S:SupScope N ps scope)
   (len:∀ vs H Q E,sp vs H Q E->vs.length=ps.length)
   (hbody:∀ (A:Around) (outer:List Env) (s:Shared) (H:Hp) (vs:List V) (Q:VK) (E:XK),Room k (A.deeper (QO2 qual scope s.heap.objs.size f cdv cc))->sp vs H Q E ->
     ∃ t,PSsA (cxS P w K mg base N qual scope f cdv cc A outer s H E) (.func body (QO2 qual scope s.heap.objs.size f cdv cc)) body t/\t { nx:=fun _ H'=>Q .non H',rt:=Q } (L2.start N vs) H) :
   FnOk P w K mg base (L2.CX P w) (k+1) f (PySem.W.ksFn name qual params body scope dV kV doc pm an cdv ct cc) ps sp:=by
 refine ⟨len,fun A outer s H args us vs Q E hr e0 hb r hsp=>?_⟩;have hl:=len _ _ _ _ hsp;have KX:K.In s.heap:=e0.mod.kin.keeps fun b o e=>(e0.bs b o e).1;have lim:s.heap.NoLimit:=e0.mod.nolimit.keeps fun b o e=>(e0.bs b o e).1
 have hkind:∀ y∈ps.zip us,scope.names.lookup y.1=some .local\/(scope.names.lookup y.1=some .cell /\ ∃ c,(cellsFrom (s.heap.objs.size+1) scope.names []).lookup y.1=some c):=fun ⟨n,v⟩ hy=>by
   rcases S.par n (List.of_mem_zip hy).1 with q | q
   . exact .inl q
   . exact .inr ⟨q,cell_has q⟩
 refine codeAny_call_function hr.depth (KX _ _ lk) rfl S.co S.gen rfl (PySem.W.codeRec_of KX hcd) (hb _ _ _ _ ?_);refine QY0 S.kind hkind fun env he s1 x=>?_;subst he;refine ⟨lim.keeps x.toInCall.keep,ks_codeAny_funcAt ?_⟩;obtain ⟨t,ht,hq⟩:=hbody A outer s H vs Q E (hr.deeper _) hsp;have I:Inv (cxS P w K mg base N qual scope f cdv cc A outer s H E) [] (L2.start N vs) H s1:=QA4 S CC hr.hd e0 hl r x;refine PySem.wpAt_mono (ht.run [] s1 (L2.start N vs) H _ I hq) (fun fl s' hs=>?_) fun e s' hs=>hs
 have fin:∀ {σ':L2.St} {H':Hp} {v:V} {u:Value},Inv (cxS P w K mg base N qual scope f cdv cc A outer s H E) [] σ' H' s'->RelV v u->Q v H'->CE outer P w H s Q u s' :=
   fun {σ' H' v u} J rv q=>⟨v,H',J.os,J.bare,J.base,J.hok,rv,q⟩
 cases fl with
 | ret u =>
   obtain ⟨v,σ',H',J,rv,q⟩:=hs;exact fin J rv q
 | next =>
   obtain ⟨σ',H',J,q⟩:=hs;exact fin (v:=V.non) (u:=Value.none) J rfl q
 | brk =>
   obtain ⟨_,_,_,q⟩:=hs;exact False.elim q
 | cont =>
   obtain ⟨_,_,_,q⟩:=hs;exact False.elim q
end
structure SupX (X:Cx) (D:Addr) (a0:Str):Prop where
 ks:X.env.kindOf "super" = some .globalImplicit
 kc:X.env.kindOf "__class__" = some .free
 fn:∃ f oc od fd osl ar,X.env.func=some f/\X.K.lookup f=some ⟨oc,od,.func fd,osl⟩/\(fd.params.posonlyargs++fd.params.args).head? = some ar/\ar.arg=a0
 code:∃ cda ccl cdd vs ccs file tf,X.env.code = .ref cda/\X.K.lookup cda=some ⟨ccl,cdd,.fields vs,ccs⟩/\vs[2]? = some (.str file tf)/\((X.prog.main.file:Str) == file)=true
 cell:∃ cc,X.env.cells.lookup ("__class__" : Str)=some cc/\Qi7 X.K cc D
 cls:∃ cd,PySem.W.clsIn X.K D=some cd
 top:(X.prog.main.scope.names.lookup ("super" : Str)).isSome=false
 n0:X.N[0]? = some a0
 vis:Vis X.env.scope a0
 blt:X.mg "super" = none
section
variable {X:Cx} {D x C:Addr} {a0:Str} {pins:List (Addr × Obj)} {σ:L2.St} {H:Hp} {s:Shared} {A:Around} {E:Value->Shared->Prop}
theorem QY1 {y:Str} {c:Addr} {v:Value} {Q:Value->Shared->Prop} (I:Inv X pins σ H s) (hk:X.env.kindOf y=some .free) (hc:X.env.cells.lookup y=some c) (hv:s.heap.IsCell c (some v)) (h:Q v s) (hn:(y == ("__classdict__" : Str))=false:=by decide):wpAny (model X.prog X.w) A (loadName X.env y) Q E s :=
 wpAny_loadName_free I.ok.kind hk hc hv h hn
theorem QY2 {i:Nat} {y:Str} {v:V} {Q:Value->Shared->Prop} (I:Inv X pins σ H s) (hN:X.N[i]? = some y) (hs:σ[i]? = some (some v)) (hv:Vis X.env.scope y) (h:∀ u,RelV v u->Q u s) (hn:(y == ("__classdict__" : Str))=false:=by decide):wpAny (model X.prog X.w) A (loadName X.env y) Q E s:=by
 obtain ⟨m,hm,hl⟩:=I.loc;obtain ⟨u,r,l⟩:=hl i y v hN hs hv;rcases l with ⟨hk,e⟩ | ⟨hk,c,hc,hcell⟩
 . exact wpAny_loadName_local I.ok.kind hk hm e (h u r)
 . rcases hk with hk | hk
   . exact wpAny_loadName_cell I.ok.kind hk hc hcell (h u r)
   . exact wpAny_loadName_free I.ok.kind hk hc hcell (h u r) hn
theorem QA5 {body:List Stmt} {attr:Str} {p0 p1:Pos} {whole:PySem.Sem Value} {ox:Obj} {Q:Value->Shared->Prop} (T:SupX X D a0) (I:Inv X pins σ H s) (hs:σ[0]? = some (some (.ref x))) (hx:s.heap.get? x=some ox) (hc:ox.cls = .ref C) (hd:∀ c,ox.data ≠ .cls c) (hm:PySem.W.mroIn X.K C (.ref D)=some true) (hat:(attr == ("__class__" : Str))=false)
   (hcd:(a0 == ("__classdict__" : Str))=false) (h:∀ s',Inv X ((s.heap.objs.size,PySem.W.ks_superObj D x C)::pins) σ H s'->(∀ b o,s.heap.get? b=some o->s'.heap.get? b=some o)->s.heap.objs.size<s'.heap.objs.size->Q (.ref s.heap.objs.size) s') :
   PySem.wpAt (model X.prog X.w) A (.func body X.env) (attributeBase (.Call (.Name "super" p0) [] [] p1) attr X.env whole) Q E s:=by
 obtain ⟨f,oc,od,fd,osl,ar,hf,lf,hp,ea⟩:=T.fn;obtain ⟨cda,ccl,cdd,vs,ccs,file,tf,hcode,lc,hvs,hfile⟩:=T.code;obtain ⟨cc,hcc,cl,cld,csl,lcc⟩:=T.cell;obtain ⟨cdD,hD⟩:=T.cls;have KI:=I.kIn
 obtain ⟨oD,gD,dD⟩:∃ oD,s.heap.get? D=some oD/\oD.data = .cls cdD:=by
   unfold PySem.W.clsIn at hD
   split at hD
   . rename_i c d cd' sl ho;cases hD;exact ⟨_,KI _ _ ho,rfl⟩
   . cases hD
 refine ks_wpAt_super_base T.ks T.kc hat hf (KI _ _ lf) rfl hp hcode (KI _ _ lc) rfl hvs hfile T.top ?_;obtain ⟨mb,b1,b2⟩:=I.mod.blt;refine PySem.W.ks_loadName_global I.ok.kind T.ks (Calls.loadGlobal_builtin (by rw [I.ok.glob]; exact I.mod.glob.keeps I.bk) T.blt (by rw [I.ok.blt]; exact b1.keeps I.bk) ((b2 _ (by decide +kernel)).trans (show bootBuiltins "super" = some (.type "super") by decide +kernel)) ⟨rfl,?_⟩);refine QY1 I T.kc hcc ⟨_,KI _ _ lcc,rfl⟩ ?_;refine QY2 I T.n0 hs T.vis ?_ hcd |> fun z=>by rw [ea]; exact z
 intro u ru;obtain rfl:u=Value.ref x:=ru;obtain ⟨hh,g,d,t,os⟩:=s;refine ks_wpAny_isType_cls gD dD ⟨rfl,?_⟩;refine ks_wpAny_call_super gD dD hx hc hd (PySem.W.looks_mroIn KI hm) fun h' e k=>?_;exact h ⟨h',g,d,t,os⟩ (ClX.pin_new I k (Nat.le_refl _) e (fun v z=>nomatch z)) k (Heap.lt_size e)
end
abbrev wrV (x:Addr):Obj:={ cls:=.type "method-wrapper",dict:=none,data:=.fields #[VEI,.ref x],slots:=#[] }
theorem Qx8:typeOf VEI=pure (.type "wrapper_descriptor"):=by
 show builtinType _=_;rw [builtinType_eq_fast]
 kernel_rfl
theorem QY3:(kfb_private% "nameAndClass") VEI=(pure (("__init__" : Str),Value.type "ValueError"):PySem.Sem (Str × Value)):=by kernel_rfl
section
open PySem.W
variable {prog:Program} {w:World} {M:Model} {A:Around} {E:Value->Shared->Prop} {h:Heap} {g:Array GenState} {d:Drawn} {t:Nat} {os:OsState}
theorem wd_vei {x C:Addr} {P:Fin->Shared->Prop} (isV:Looks M h (isInstance (.ref x) (.type "ValueError")) true) (q:P (.done (.ret (.ref h.objs.size))) ⟨h.push (wrV x),g,d,t,os⟩) :
   wpAny M A (Builtin.«wrapper_descriptor.__get__» ⟨[VEI,.ref x,.ref C],[]⟩) P E ⟨h,g,d,t,os⟩:=by
 unfold Builtin.«wrapper_descriptor.__get__»;refine wpAny_bind (wpAny_of_eq (a:=(VEI,some (.ref x),some (.ref C))) (by first | rfl | kernel_rfl) ?_);show wpAny M A ((kfb_private% "checkInstance") VEI (.ref x) >>= fun _=>newFields "method-wrapper" [VEI,.ref x] >>= fun r=>ret r) P E _;refine wpAny_bind ?_;show wpAny M A ((kfb_private% "nameAndClass") VEI >>= _) _ E _;refine wpAny_bind (wpAny_of_eq QY3 ?_);show wpAny M A (isInstance (.ref x) (.type "ValueError") >>= _) _ E _;refine wpAny_bind (isV.at ?_);exact KFB.if_not rfl (wpAny_pure (wpAny_bind (wpAny_newObj_type (wpAny_pure q))))
theorem ga_vei {so D x C:Addr} {mro rest:List Value} {K:Frag} {nm:Str} {tk:Tok} {Q:Fin->Shared->Prop}
   (eso:h.get? so=some (ks_superObj D x C)) (opq:Looks (model prog w) h (opaqueClassAbove (.ref C)) none) (lmro:Looks (model prog w) h (mroOf (.ref C)) mro) (hl:(mro.dropWhile (· != .ref D)).drop 1=rest) (X:K.In h)
   (al:alongIn K nm rest=some (some VEI)) (xC:x≠C) (ncls:(nm == ("__class__" : Str))=false) (isV:Looks (model prog w) h (isInstance (.ref x) (.type "ValueError")) true) (q:Q (.done (.ret (.ref h.objs.size))) ⟨h.push (wrV x),g,d,t,os⟩) :
   wpAny (model prog w) A (Builtin.«super.__getattribute__» ⟨[.ref so,.str nm tk],[]⟩) Q E ⟨h,g,d,t,os⟩:=by
 have lk:=ESX.slot_wd.lookup;have nxc:(Value.ref x == Value.ref C)=false:=by simp [xC]
 have tf:=Qx8;have ti:Shared.TypeIs ⟨h,g,d,t,os⟩ VEI "wrapper_descriptor" := Qx8;have dt:(ks_superObj D x C).data = .fields #[.ref D,.ref x,.ref C]:=rfl;have p0:(#[.ref D,.ref x,.ref C]:Array Value)[0]? = some (.ref D):=rfl;have p1:(#[.ref D,.ref x,.ref C]:Array Value)[1]? = some (.ref x):=rfl;have p2:(#[.ref D,.ref x,.ref C]:Array Value)[2]? = some (.ref C):=rfl;unfold Builtin.«super.__getattribute__»
 repeat (first
   | (with_reducible refine wpAny_field eso dt p0 ?_) | (with_reducible refine wpAny_field eso dt p1 ?_)
   | (with_reducible refine wpAny_field eso dt p2 ?_) | (with_reducible refine ks_wpAny_notOpaque opq ?_)
   | (with_reducible refine Looks.at lmro ?_; rw [hl])
   | (refine ks_forIn_along X (fun _ _=>rfl) rfl ?_ al)
   | (with_reducible refine wpAny_call_entry ESX.slot_wd ti ESX.entry_wd ?_ (ESX.args_wd _ _ _))
   | (with_reducible refine wd_vei isV ?_) | (with_reducible refine ⟨_,rfl,?_⟩)
   | (simp only [ncls,nxc,Bool.or_false,Bool.false_eq_true,if_false])
   | wp_step | dsimp only)
 all_goals exact q
theorem gm_vei {so D x C:Addr} {mro rest:List Value} {K:Frag} {nm:Str} {pl:PySem.Sem Bool} {Q:Value × List Value->Shared->Prop}
   (eso:h.get? so=some (ks_superObj D x C)) (opq:Looks (model prog w) h (opaqueClassAbove (.ref C)) none) (lmro:Looks (model prog w) h (mroOf (.ref C)) mro) (hl:(mro.dropWhile (· != .ref D)).drop 1=rest) (X:K.In h)
   (al:alongIn K nm rest=some (some VEI)) (xC:x≠C) (ncls:(nm == ("__class__" : Str))=false) (isV:Looks (model prog w) h (isInstance (.ref x) (.type "ValueError")) true) (q:Q (.ref h.objs.size,[]) ⟨h.push (wrV x),g,d,t+1,os⟩) :
   wpAny (model prog w) A (getMethod (.ref so) nm pl) Q E ⟨h,g,d,t,os⟩:=by
 have lk:=F.ks_slot_super_ga.lookup;have cn:=F.ks_canon_super_ga;have ty:∀ t',(⟨h,g,d,t',os⟩:Shared).TypeIs (.ref so) "super" := fun _=>⟨_,eso,rfl⟩;unfold getMethod;refine wpAny_bind (wpAny_specialOf (ty _) lk ?_);show wpAny _ _ (if (Manifest.canonical "super.__getattribute__" != "object.__getattribute__")=true then _ else _) _ _ _;rw [if_pos cn];unfold getAttr getAttrBy;refine wpAny_bind (wpAny_bind (wpAny_mkText (wpAny_holding (wpAny_bind (wpAny_typeOf (ty _) (wpAny_bind (wpAny_of_eq lk ?_)))))));show wpAny _ _ (getAttrByItsOwn (.ref so) (.str nm t) (.type "super") (.builtin "super.__getattribute__") true false) _ _ _;unfold getAttrByItsOwn hookBefore callGetattribute boundAndCalled;refine wpAny_bind (wpAny_of_eq (a:=none) (show (if onTheHeap (.type "super") then typeLookup (.type "super") "__getattr__" else pure none)=pure none from rfl) ?_);refine wpAny_bind (wpAny_attempt (wpAny_holding ?_));show wpAny _ _ (bindSpecial (.builtin "super.__getattribute__") (.ref so) >>= _) _ _ _;refine wpAny_bind (wpAny_of_eq (F.ks_slot_super_ga.bind (.ref so)) ?_);refine wpAny_mono (Q:=fun v s'=>v = .ref h.objs.size/\s'=⟨h.push (wrV x),g,d,t+1,os⟩) (E:=fun _ _=>False) (wpAny_call_entry F.ks_slot_super_ga (ty _) F.ks_entry_super_ga (ga_vei eso opq lmro hl X al xC ncls isV ⟨_,rfl,rfl,rfl⟩) (F.ks_gaArgs_super _ _)) (fun v s' hv=>?_) fun _ _ z=>z.elim;obtain ⟨rfl,rfl⟩:=hv;exact wpAny_pure (wpAny_pure q)
end
section
open PySem.W PySem.Calls PyProof.Rows
variable {prog:Program} {w:World} {M:Model} {A:Around} {E:Value->Shared->Prop} {s:Shared}
theorem QY4 {pos:Pos} {u x:Addr} {args:List (Bool × PySem.Sem Value)} {Q:Value->Shared->Prop} (pla:args.any (·.1)=false)
   (h:wpAny M A (evalArgs (.ref u) true args []) (fun a s1=>s1.heap.get? u=some (wrV x)/\wpAny M A (call (.ref u) ([]++a.pos) a.kw) Q E s1) E s):wpAny M A (callWith pos (.ref u) [] args []) Q E s:=by
 unfold callWith;refine wpAny_bind (wpAny_holding (wpAny_mono h (fun a s1 h1=>wpAny_bind (wpAny_standAt ?_)) fun _ _ z=>z));obtain ⟨ho,hcall⟩:=h1;simp only [pla,List.any_nil,Bool.or_false];refine wpAny_bind (m:=keeperOf (.ref u)) ?_;unfold keeperOf;refine wpAny_bind (wpAny_load ho ?_);simp only [wrV,show (Value.type "method-wrapper" != Value.type "method")=true by decide,show (Value.type "method-wrapper" == Value.type "builtin_function_or_method" || Value.type "method-wrapper" == Value.type "method-wrapper")=true by decide,if_true];exact wpAny_pure (wpAny_bind (wpAny_mono hcall (fun r s2 hr=>wpAny_bind (wpAny_holding (wpAny_point (wpAny_pure hr)))) fun _ _ z=>z))
theorem cw_vei {pos:Pos} {u x:Addr} {env:Env} {e:Expr} {rest:List Expr} {Q:Value->Shared->Prop}
   (h:wpAny M A (spliced (backTo pos (starEach (e::rest) env))) (fun vs s1=>s1.heap.get? u=some (wrV x)/\wpAny M A (call (.ref u) ([]++vs)) Q E s1) E s)
   (he:starEach (e::rest) env=(false,eval e env)::starEach rest env:=by rfl) (hp:(backTo pos (starEach rest env)).any (·.1)=false:=by rfl) :
   wpAny M A (callWith pos (.ref u) [] (backTo pos (starEach (e::rest) env)) []) Q E s:=by
 rw [he] at h ⊢;refine QY4 (x:=x) (by show (false || (backTo pos (starEach rest env)).any fun z=>z.1)=false; rw [hp]; rfl) ?_;exact evalArgs_plain h
end
section
open PySem.W PySem.Calls PyProof.Rows
variable {X:Cx} {pins:List (Addr × Obj)} {σ:L2.St} {H:Hp} {s:Shared} {a C u:Addr} {A:Around} {E:Value->Shared->Prop}
variable {M:Model} {h:Heap} {g:Array GenState} {d:Drawn} {t:Nat} {os:OsState}
variable {nm q:Str} {N:Addr} {bs bm bmB:List Value} {hdct:Bool} {sn:List Str} {sub:List Value} {ab:Bool} {col:Option Bool} {dd:Option Addr} {k0 k1 k2 k3 k5:Option Value} {B newId initId:String}
variable {prog:Program} {w:World}
theorem QO3 {e t0:Addr} {rest:List Value} {Q:Value->Shared->Prop}
   (hC:h.get? C=some (excClassObj nm q C N bs bm hdct sn sub ab col dd k0 k1 k2 k3 k5 "ValueError.__new__")) (he:h.get? e=some (HandSPX.excO C t0)) (hu:h.get? u=some (wrV e)) (hl:rest.length<=sizeLine)
   (hq:∀ h' t1,(∀ b o,b≠e->h.get? b=some o->h'.get? b=some o)->h'.get? e=some (HandSPX.excO C t1)->Q .none ⟨h',g,d,t,os⟩) :
   wpAny (model prog w) A (call (.ref u) rest) Q E ⟨h,g,d,t,os⟩:=by
 refine wpAny_call (codeAny_of_tree ?_);show wpAny _ A.in1 (callAny (.ref u) ⟨rest,[]⟩) _ _ _;unfold callAny;refine wpAny_bind (wpAny_load hu ?_);simp only [wrV,show (Value.type "method-wrapper" == Value.type "method" || Value.type "method-wrapper" == Value.type "builtin_function_or_method" || Value.type "method-wrapper" == Value.type "method-wrapper")=true by decide,if_true];refine KFB.if_so (by decide) ?_;refine wpAny_bind (ESX.check_bound F.excBase_ValueError hC he rfl (wpAny_bind (wpAny_pure (wpAny_pure ?_)) |> fun z=>z));refine ⟨Code.quiet_builtin _ (by decide +kernel),codeAny_builtin F.excBase_ValueError.initEntry ?_⟩;rw [Around.under_plainId F.excBase_ValueError.init.plain _]
 wp_walk
 refine hq _ h.objs.size (fun b o hb ho=>?_) ?_
 . exact (Heap.get?_update_other _ _ (Ne.symm hb)).trans (Heap.get?_push_of_some _ ho)
 . exact (Heap.get?_update_self _ (Heap.get?_push_of_some _ he) rfl).trans rfl
end
section
variable {X:Cx} {pins:List (Addr × Obj)} {σ:L2.St} {H:Hp} {s:Shared} {a C u:Addr} {A:Around} {E:Value->Shared->Prop}
theorem QH2 {us:List Value} {Q:Value->Shared->Prop} (T:OexC X.K C) (I:Inv X pins σ H s) (e:H a=some (exo a C none)) (hu:s.heap.get? u=some (wrV a)) (hl:us.length<=sizeLine) (h:∀ s',Inv X pins σ H s'->Q .none s') :
   wpAny (model X.prog X.w) A (call (.ref u) us) Q E s:=by
 obtain ⟨nm,q,N,bs,bm,sn,sub,ab,col,dd,k0,k1,k2,k3,k5,hC,hbm⟩:=T.cls;obtain ⟨t1,ho⟩:=exo_at I.hok e;obtain ⟨hp,g,d,t,os⟩:=s;refine QO3 (I.kIn _ _ hC) ho hu hl fun h' t2 k hx=>?_;have J:=I.write (t':=t) (x:=a) (e:=a) (o:=exo a C none) (by rw [e]; exact True.intro) (.inl rfl) k ⟨_,hx⟩ (exo_ok hx)
 have same:upd H a (exo a C none)=H:=by
   funext b
   by_cases hb:b=a
   . rw [hb,upd_same,e]
   . exact upd_ne hb
 rw [same] at J;exact h _ J
structure SupV (K:UZ9) (C D:Addr):Prop where
 ox:OexC K C
 sub:PySem.W.mroIn K C (.ref D)=some true
 ini:PySem.W.ks_superIn K C D "__init__" = some (some VEI)
 ve:PySem.W.mroIn K C (.type "ValueError")=some true
 op:PySem.W.nsIn K cStatics "thirdparty.any" = some none
def tSupV (K:UZ9) (D:Addr) (ta:TA):TE:=fun σ H Q=>∃ a C,σ[0]? = some (some (V.ref a))/\H a=some (exo a C none)/\SupV K C D/\ta σ H fun vs H1=>vs.length<=1000/\H1 a=some (exo a C none)/\Q .non H1
theorem Qx9 {D:Addr} {a0:Str} {body:List Stmt} {e:Expr} {es:List Expr} {ta:TA} {p0 p1 p2 pos pos':Pos} {pl:PySem.Sem Bool} (T:SupX X D a0) (ha:PA X (e::es) ta) (hcd:(a0 == ("__classdict__" : Str))=false:=by decide)
   (hc:eval (.Call (.Attribute (.Call (.Name "super" p0) [] [] p1) "__init__" p2) (e::es) [] pos) X.env=(do
     let ov <- attributeBase (.Call (.Name "super" p0) [] [] p1) "__init__" X.env (eval (.Call (.Name "super" p0) [] [] p1) X.env)
     standAt p2.atName
     let (f,first) <- holding [ov] (getMethod ov "__init__" pl)
     callWith pos f first (backTo pos (starEach (e::es) X.env)) []):=by rfl)
   (he:starEach (e::es) X.env=(false,eval e X.env)::starEach es X.env:=by rfl) (hpl:(backTo pos (starEach es X.env)).any (·.1)=false:=by rfl)
   (hsw:swapsWith (.Call (.Attribute (.Call (.Name "super" p0) [] [] p1) "__init__" p2) (e::es) [] pos) none pos'.line X.env=pure false:=by rfl) :
   PSA X (.func body X.env) (.Expr (.Call (.Attribute (.Call (.Name "super" p0) [] [] p1) "__init__" p2) (e::es) [] pos) pos') (tDrop (tSupV X.K D ta)):=by
 refine ⟨fun pins s σ H Dn I ⟨a,C,hs,hH,SV,h⟩=>?_⟩;obtain ⟨t1,ho⟩:=exo_at I.hok hH;refine ks_wpAt_Expr_any (ks_wpAt_MethodCall (pl:=pl) (QA5 T I hs ho rfl (fun c z=>nomatch z) SV.sub (by decide) hcd fun s1 I1 k1 l1=>?_) hc) I.quiet hsw;obtain ⟨nm,q,N,bs,bm,sn,sub,ab,col,dd,k0,k1',k2,k3,k5,hC,hbm⟩:=SV.ox.cls
 have hcl:PySem.W.clsIn X.K C=some { name:=nm,bases:=bs,mro:=.ref C::bm,ns:=N,qualname:=q,hasDict:=true,slotNames:=sn,subclasses:=sub,abstract:=ab,collection:=col,hasDel:=false }:=by
   unfold PySem.W.clsIn;rw [hC]
 obtain ⟨t2,ho2⟩:=exo_at I1.hok hH;have J:PySem.W.InstAt s1.heap a { cls:=.ref C,data:=.fields #[.ref t2,.none,.none,.none,.bool false,.none] } C none:=⟨ho2,rfl,rfl,trivial⟩;have ini:=SV.ini;unfold PySem.W.ks_superIn at ini;rw [hcl] at ini;have aC:a≠C:=PySem.W.ks_ne I1.kIn J hcl;obtain ⟨hp,g,d,t,os⟩:=s1;refine gm_vei (ClX.pin_at I1) (PySem.W.looks_opaque I1.kIn SV.op) (mro:=.ref C::bm) (fun A Q E s k q=>wpAny_bind ((PySem.W.looks_clsIn I1.kIn hcl) A _ E s k (wpAny_pure q))) rfl I1.kIn ini aC (by decide) (J.type.andThen (PySem.W.looks_mroIn I1.kIn SV.ve)) ?_
 have I2:Inv X ((hp.objs.size,wrV a)::(s.heap.objs.size,PySem.W.ks_superObj D a C)::pins) σ H ⟨hp.push (wrV a),g,d,t+1,os⟩ :=
   ClX.pin_new I1 (fun _ _ z=>Heap.get?_push_of_some _ z) (Nat.le_refl _) (Heap.get?_push_size hp rfl) (fun v z=>nomatch z)
 refine cw_vei (x:=a) (thn (ha.run pos _ _ σ H _ I2 h) fun us s3 ⟨vs,H1,I3,r,hl,hH1,q⟩=>⟨ClX.pin_at I3,?_⟩) he hpl;refine QH2 SV.ox I3 hH1 (ClX.pin_at I3) (by rw [List.nil_append,<- r.length,sizeLine_eq]; omega) fun s4 I4=>?_;exact ⟨σ,H1,ClX.unpin (ClX.unpin I4),q⟩
end
def Qy0 (P:Program) (K:UZ9) (cdv:Value):Prop:=∃ cda ccl cdd vs ccs file tf,cdv = .ref cda/\K.lookup cda=some ⟨ccl,cdd,.fields vs,ccs⟩/\vs[2]? = some (.str file tf)/\((P.main.file:Str) == file)=true
structure SupTop (P:Program) (mg:Str->Option Value):Prop where
 top:(P.main.scope.names.lookup ("super" : Str)).isSome=false
 blt:mg "super" = none
structure DefS (P:Program) (K:UZ9) (D f:Addr) (name qual:Str) (params:Arguments) (body:List Stmt) (scope:Scope) (fd:FuncData):Prop where
 ex:∃ oc od osl kV doc pm an cdv ct cc,fd=PySem.W.ksFn name qual params body scope .none kV doc pm an cdv ct cc/\K.lookup f=some ⟨oc,od,.func fd,osl⟩/\PySem.W.codeIn K cdv qual=true/\Qi7 K cc D/\Qy0 P K cdv
 cls:∃ cd,PySem.W.clsIn K D=some cd
 kp:PySem.W.keepIn K (.ref f)=true
section
variable {P:Program} {w:World} {K:UZ9} {mg:Str->Option Value} {base:Heap} {k:Nat} {f D:Addr} {name qual a0:Str} {params:Arguments} {body:List Stmt} {scope:Scope} {fd:FuncData} {N ps:List Str} {sp:Sp}
theorem DefS.ok (T:DefS P K D f name qual params body scope fd) (TT:SupTop P mg) (S:SupScope N ps scope) (hsu:scope.names.lookup ("super" : Str)=some .globalImplicit) (n0:N[0]? = some a0) (vis:Vis scope a0) (hp:∃ ar,(params.posonlyargs++params.args).head? = some ar/\ar.arg=a0)
   (len:∀ vs H Q E,sp vs H Q E->vs.length=ps.length)
   (hbody:∀ (X:Cx) (A:Around) (outer:List Env) (s:Shared) (H:Hp) (vs:List V) (Q:VK) (E:XK) (cdv:Value) (cc:Addr),X=cxS P w K mg base N qual scope f cdv cc A outer s H E->SupX X D a0->Room k X.A->sp vs H Q E ->
     ∃ t,PSsA X (.func body X.env) body t/\t { nx:=fun _ H'=>Q .non H',rt:=Q } (L2.start N vs) H) :
   FnOk P w K mg base (L2.CX P w) (k+1) f fd ps sp:=by
 obtain ⟨oc,od,osl,kV,doc,pm,an,cdv,ct,cc,rfl,lk,hcd,CC,cda,ccl,cdd,vs0,ccs,file,tf,ec,lc,hv,hf⟩:=T.ex;obtain ⟨ar,h1,h2⟩:=hp;refine fn_ofS lk hcd CC S len fun A outer s H vs Q E hr hsp=>?_;exact hbody (cxS P w K mg base N qual scope f cdv cc A outer s H E) A outer s H vs Q E cdv cc rfl ⟨hsu,S.ncl,⟨f,oc,od,_,osl,ar,rfl,lk,h1,h2⟩,⟨cda,ccl,cdd,vs0,ccs,file,tf,ec,lc,hv,hf⟩,⟨cc,Qd9 (Qx7 S _),CC⟩,T.cls,TT.top,n0,vis,TT.blt⟩ hr hsp
end
def QH3 (C:Addr) (fns:List Str):Sp:=fun vs H Q _=>∃ e ws,vs=V.ref e::ws/\ws.length=fns.length/\H e=some (exo e C none) /\
 ∀ dx H',H dx=none->dx≠e->H' e=some (exo e C (some dx))->H' dx=some (exd dx (fns.zip ws).reverse)->(∀ b,b≠e->b≠dx->H' b=H b)->Q .non H'
section
variable {P:Program} {w:World} {K:UZ9} {mg:Str->Option Value} {base:Heap} {f C:Addr} {name qual a b z f1 f2:Str} {params:Arguments} {body:List Stmt} {scope:Scope} {fd:FuncData} {p0 p1 p2 p3 p4 p5 p6 p7 p8 p9 q6 q7 q8 q9:Pos} {j:Nat} {pl:PySem.Sem Bool}
theorem QH4 (T:DefS P K C f name qual params body scope fd) (TT:SupTop P mg) (SV:SupV K C C) (no1:PySem.W.findIn K (.ref C) f1=some none)
   (hb:body=[.Expr (.Call (.Attribute (.Call (.Name "super" p0) [] [] p1) "__init__" p2) [.Constant (.str z) j p3] [] p4) p5,.Assign [.Attribute (.Name "self" p6) f1 p7] (.Name a p8) p9])
   (S:SupScope ["self",a] ["self",a] scope) (hsu:scope.names.lookup ("super" : Str)=some .globalImplicit) (vis:Vis scope "self") (vis1:Vis scope a) (hp:∃ ar,(params.posonlyargs++params.args).head? = some ar/\ar.arg=("self" : Str))
   (hc:∀ env:Env,eval (.Call (.Attribute (.Call (.Name "super" p0) [] [] p1) "__init__" p2) [.Constant (.str z) j p3] [] p4) env=(do
     let ov <- attributeBase (.Call (.Name "super" p0) [] [] p1) "__init__" env (eval (.Call (.Name "super" p0) [] [] p1) env)
     standAt p2.atName
     let (f,first) <- holding [ov] (getMethod ov "__init__" pl)
     callWith p4 f first (backTo p4 (starEach [.Constant (.str z) j p3] env)) []):=by intro env; rfl)
   (hsw:∀ env:Env,swapsWith (.Call (.Attribute (.Call (.Name "super" p0) [] [] p1) "__init__" p2) [.Constant (.str z) j p3] [] p4) none p5.line env=pure false:=by intro env; rfl)
   (hd:(a == ("__debug__" : Str))=false:=by decide) (hcd:(a == ("__classdict__" : Str))=false:=by decide):FnOk P w K mg base (L2.CX P w) 1 f fd ["self",a] (QH3 C [f1]):=by
 subst hb;refine T.ok TT S hsu rfl vis hp (fun vs H Q E ⟨e,ws,ev,hl,_⟩=>by rw [ev,List.length_cons,hl]; rfl) fun X A outer s H vs Q E cdv cc eX SX hr ⟨e,ws,ev,hl,he,hq⟩=>?_;subst ev
 match ws,hl with
 | [y],_ =>
   subst eX;refine ⟨_,PSsA.cons (Qx9 SX (pa_cons pe_str pa_nil) (by decide) (hc _) rfl rfl (hsw _)) (PSsA.of (pss_one (ps_ost (pe_var (i:=0) rfl vis) (pe_var (i:=1) rfl vis1 hd hcd)))),?_⟩;refine ⟨e,C,rfl,he,SV,Nat.le_of_ble_eq_true rfl,he,y,rfl,V.ref e,rfl,e,C,rfl,SV.ox,no1,.inl ⟨he,fun dx n ne=>?_⟩⟩;refine hq dx _ n ne upd_same (by rw [upd_ne ne,upd_same]; rfl) fun c h1 h2=>by rw [upd_ne h1,upd_ne h2]
theorem QY5 (T:DefS P K C f name qual params body scope fd) (TT:SupTop P mg) (SV:SupV K C C) (no1:PySem.W.findIn K (.ref C) f1=some none) (no2:PySem.W.findIn K (.ref C) f2=some none)
   (hb:body=[.Expr (.Call (.Attribute (.Call (.Name "super" p0) [] [] p1) "__init__" p2) [.Constant (.str z) j p3] [] p4) p5,.Assign [.Attribute (.Name "self" p6) f1 p7] (.Name a p8) p9,.Assign [.Attribute (.Name "self" q6) f2 q7] (.Name b q8) q9])
   (S:SupScope ["self",a,b] ["self",a,b] scope) (hsu:scope.names.lookup ("super" : Str)=some .globalImplicit) (vis:Vis scope "self") (vis1:Vis scope a) (vis2:Vis scope b) (hp:∃ ar,(params.posonlyargs++params.args).head? = some ar/\ar.arg=("self" : Str))
   (hc:∀ env:Env,eval (.Call (.Attribute (.Call (.Name "super" p0) [] [] p1) "__init__" p2) [.Constant (.str z) j p3] [] p4) env=(do
     let ov <- attributeBase (.Call (.Name "super" p0) [] [] p1) "__init__" env (eval (.Call (.Name "super" p0) [] [] p1) env)
     standAt p2.atName
     let (f,first) <- holding [ov] (getMethod ov "__init__" pl)
     callWith p4 f first (backTo p4 (starEach [.Constant (.str z) j p3] env)) []):=by intro env; rfl)
   (hsw:∀ env:Env,swapsWith (.Call (.Attribute (.Call (.Name "super" p0) [] [] p1) "__init__" p2) [.Constant (.str z) j p3] [] p4) none p5.line env=pure false:=by intro env; rfl)
   (hd:(a == ("__debug__" : Str))=false:=by decide) (hcd:(a == ("__classdict__" : Str))=false:=by decide) (hd2:(b == ("__debug__" : Str))=false:=by decide) (hcd2:(b == ("__classdict__" : Str))=false:=by decide):FnOk P w K mg base (L2.CX P w) 1 f fd ["self",a,b] (QH3 C [f1,f2]):=by
 subst hb;refine T.ok TT S hsu rfl vis hp (fun vs H Q E ⟨e,ws,ev,hl,_⟩=>by rw [ev,List.length_cons,hl]; rfl) fun X A outer s H vs Q E cdv cc eX SX hr ⟨e,ws,ev,hl,he,hq⟩=>?_;subst ev
 match ws,hl with
 | [y,u],_ =>
   subst eX;refine ⟨_,PSsA.cons (Qx9 SX (pa_cons pe_str pa_nil) (by decide) (hc _) rfl rfl (hsw _)) (PSsA.of (pss_cons (ps_ost (pe_var (i:=0) rfl vis) (pe_var (i:=1) rfl vis1 hd hcd)) (pss_one (ps_ost (pe_var (i:=0) rfl vis) (pe_var (i:=2) rfl vis2 hd2 hcd2))))),?_⟩;refine ⟨e,C,rfl,he,SV,Nat.le_of_ble_eq_true rfl,he,y,rfl,V.ref e,rfl,e,C,rfl,SV.ox,no1,.inl ⟨he,fun dx n ne=>?_⟩⟩;refine ⟨u,rfl,V.ref e,rfl,e,C,rfl,SV.ox,no2,.inr ⟨dx,[(f1,y)],upd_same,by rw [upd_ne ne,upd_same],Nat.le_of_ble_eq_true rfl,?_⟩⟩;refine hq dx _ n ne (by rw [upd_ne (Ne.symm ne),upd_same]) (by rw [upd_same]; rfl) fun c h1 h2=>by rw [upd_ne h2,upd_ne h1,upd_ne h2]
end
section
variable {g:G} {F:Fr} {U:Addr->Prop} {ρ:List Addr} {zσ:ZS} {zh:ZH} {σ:L2.St} {H:Hp} {W:WX}
theorem RDs.snoc:∀ {xs:List D} {vs:List V} {x:D} {v:V},RDs g U H xs vs->RD g U H x v->RDs g U H (xs++[x]) (vs++[v]):=fun h k=>h.append (rds_cons.mpr ⟨_,[],rfl,k,rds_nil.mpr rfl⟩)
theorem RDs.back:∀ {xs:List D} {vs:List V},RDs g U H xs vs->RDs g U H xs.reverse vs.reverse
 | [],vs,h=>by rw [rds_nil.mp h]; exact rds_nil.mpr rfl
 | x::xs,vs,h=>by
   obtain ⟨v,vs',rfl,h1,h2⟩:=rds_cons.mp h;rw [List.reverse_cons,List.reverse_cons];exact (RDs.back h2).snoc h1
theorem PostA.toS {D:Ends} (rs:RelS g (UO F ρ zh) H ρ zσ σ) {out:Out (List Z)} {f:List Z->ZH->OutS} {K:List V->Hp->Prop} (p:PostS g F W ρ zh H (out.bndS zσ f) D)
   (h:∀ ρ1 zs zh1 vs H1,Ext F ρ zh H ρ1 zh1 H1->RelH g F ρ1 zh1 H1->RZs g (UO F ρ1 zh1) H1 ρ1 zs vs->PostS g F W ρ1 zh1 H1 (f zs zh1) D->K vs H1):PostA g F W ρ zσ zh σ H out K:=by
 cases out with
 | ok zs zh1=>exact fun ρ' vs H' e1 e2 e3=>h ρ' zs zh1 vs H' e1 e2 e3 (PostS.shift e1 p)
 | exc x h=>exact fun ρ' cls dx H' e1 e2 e3=>p ρ' σ cls dx H' e1 e2 (rs.mono e1) e3
 | bad=>exact p
end
def QH5 (c:Nat) (zs:List Z) (s:ZS) (h:ZH):OutS:=match G0 zs with
 | some xs=>if xs.length=(X0 c).length/\0<xs.length/\xs.length<=100 then .exc ⟨c,xs.reverse⟩ s h else .bad
 | none=>.bad
def Qc6 (c:Nat) (d:DA):DS:=fun s h=>(d s h).bndS s fun zs h1=>QH5 c zs s h1
structure ExT (P:Program) (w:World) (K:UZ9) (mg:Str->Option Value) (base:Heap) (g:G) (k c:Nat):Prop where
 ex:∃ fI fd ps,PySem.W.findIn K (.ref (g.cad c)) "__init__" = some (some (.ref fI))/\PySem.W.typeIn K (.ref fI)=some (.type "function")/\FnOk P w K mg base (L2.CX P w) k fI fd ps (QH3 (g.cad c) ((X0 c).reverse.map fnm))/\Binds K fd ps []
 ox:OexC K (g.cad c)
 hx:g.hasX c=true
theorem ExT.mono {P:Program} {w:World} {K:UZ9} {mg:Str->Option Value} {base:Heap} {g:G} {k j c:Nat} (T:ExT P w K mg base g k c) (h:k<=j):ExT P w K mg base g j c:=by
 obtain ⟨⟨fI,fd,ps,h1,h2,h3,h4⟩,h5,h6⟩:=T;exact ⟨⟨fI,fd,ps,h1,h2,h3.mono h,h4⟩,h5,h6⟩
theorem Qo4 {X:Cx}:Passes (L2.CX X.prog X.w) X (fun _ _ _=>False):=fun pins σ H s e s' I c=>by
 obtain ⟨_,_,_,_,_,_,_,_,_,_,_,_,q⟩:=c;exact q.elim
section
variable {g:G} {F:Fr} {X:Cx} {W:WX} {e:Expr} {es:List Expr} {d:DA} {pos pos' p:Pos} {k c:Nat} {x:Str}
theorem Qo5 (c:Nat) (hK:X.K=g.K) (T:ExT X.prog X.w X.K X.mg X.base g k c) (hc:X.calm=true) (hr:Room (k+1) X.A) (tk:Takes X W) (hg:Gl X x) (hm:X.mg x=some (.ref (g.cad c))) (ha:ZA g F X W (e::es) d)
   (hdb:(x == ("__debug__" : Str))=false:=by decide) (he:starEach (e::es) X.env=(false,eval e X.env)::starEach es X.env:=by rfl) (hpl:(backTo pos (starEach es X.env)).any (·.1)=false:=by rfl) :
   ZS1 g F X W (.Raise (some (.Call (.Name x p) (e::es) [] pos)) none pos') (Qc6 c d):=by
 obtain ⟨fI,fd,ps,iC,tI,F1,bi⟩:=T.ex;refine PS.imp (ps_raise hc tk (pmk_oex T.ox iC tI F1 hr bi .nil Qo4 hg hm ha hdb he hpl)) fun D σ H ⟨ρ,zσ,zh,RH,RS,p⟩=>?_;refine ⟨ρ,zσ,zh,RH,RS,PostA.toS RS p fun ρ1 zs zh1 vs H1 e1 R1 rzs p1=>?_⟩;unfold QH5 at p1;cases kd:G0 zs with
 | none=>rw [kd] at p1; exact p1.elim
 | some xs =>
   rw [kd] at p1;dsimp only at p1
   split at p1
   . rename_i hl;have rd:=M5 kd rzs;have lv:=rd.length;refine ⟨by omega,fun a na=>⟨a,vs++[],rfl,?_,upd_same,fun dx H' n ne h1 h2 h3=>⟨rfl,dx,_,h1,h2,?_,?_⟩⟩⟩
     . rw [List.append_nil,Xq5,List.length_reverse];omega
     . rw [upd_ne ne] at n;exact n
     . rw [upd_ne ne] at n
       have eH:upd (del H' a) dx (.xd ((((X0 c).reverse.map fnm).zip (vs++[])).reverse))=upd H1 dx (.xd ((((X0 c).reverse.map fnm).zip (vs++[])).reverse)):=by
         funext b
         by_cases hb:b=dx
         . rw [hb,upd_same,upd_same]
         . rw [upd_ne hb,upd_ne hb]
           by_cases hba:b=a
           . rw [hba,del_same,na]
           . rw [del_ne hba,h3 b hba hb,upd_ne hba]
       rw [eH,List.append_nil];obtain ⟨R2,e2,nu⟩:=R1.newF (o:=.xd ((((X0 c).reverse.map fnm).zip vs).reverse)) n;refine p1 ρ1 σ _ _ _ e2 R2 ((RS.mono e1).mono e2) ⟨rfl,T.hx,.inr ⟨fun z=>?_,dx,_,rfl,nu,upd_same,?_,?_⟩⟩
       . have:=congrArg List.length z;simp at this;rw [this] at hl;simp at hl
       . have e3:∀ l:List Str,l.length=vs.length->(l.zip vs).reverse.map (fun z=>z.1)=l.reverse:=fun l hl=>by
           rw [List.map_reverse];exact congrArg List.reverse (List.map_fst_zip (by omega))
         rw [e3 _ (by rw [Xq5,List.length_reverse]; omega),<- List.map_reverse,List.reverse_reverse]
       . have e3:∀ l:List Str,l.length=vs.length->(l.zip vs).reverse.map (fun z=>z.2)=vs.reverse:=fun l hl=>by
           rw [List.map_reverse];exact congrArg List.reverse (List.map_snd_zip (by omega))
         rw [e3 _ (by rw [Xq5,List.length_reverse]; omega)];exact (RDs.mono e2.stb _ _ rd).back
   . exact p1.elim
end
def Fr.at_ (F:Fr) (ρ:List Addr) (zh:ZH) (H:Hp):Fr:=⟨F.P,UO F ρ zh,H⟩
section
variable {g:G} {F:Fr} {ρ ρ0 ρ1:List Addr} {zh zh0 zh1:ZH} {H H0 H1:Hp} {W:WX} {D:Ends}
theorem RelH.enter (r:RelH g F ρ zh H):RelH g (F.at_ ρ zh H) ρ zh H :=
 ⟨r.len,r.nd,r.own,fun a h=>⟨rfl,let ⟨e,o,k⟩:=r.prot a h; ⟨o,e.trans k⟩⟩,r.notp,r.trk,Stb.refl⟩
theorem RelH.leave (r0:RelH g F ρ0 zh0 H0) (r:RelH g (F.at_ ρ0 zh0 H0) ρ zh H):RelH g F ρ zh H :=
 ⟨r.len,r.nd,r.own,fun a h=>⟨(r.prot a h).1.trans (r0.prot a h).1,(r0.prot a h).2⟩,r.notp,r.trk,r0.stb.trans r.stb⟩
theorem Ext.leave (e:Ext (F.at_ ρ0 zh0 H0) ρ zh H ρ1 zh1 H1):Ext F ρ zh H ρ1 zh1 H1:=⟨e.pre,e.stb,e.trk,e.fresh⟩
theorem PostS.enter (r0:RelH g F ρ0 zh0 H0) {out:OutS} (p:PostS g F W ρ zh H out D):PostS g (F.at_ ρ0 zh0 H0) W ρ zh H out D:=by
 cases out with
 | nx s h=>exact fun ρ' v H' e r=>p ρ' v H' e.leave (r0.leave r)
 | rt s h=>exact fun ρ' v H' e r=>p ρ' v H' e.leave (r0.leave r)
 | bk s h=>exact fun ρ' v H' e r=>p ρ' v H' e.leave (r0.leave r)
 | ct s h=>exact fun ρ' v H' e r=>p ρ' v H' e.leave (r0.leave r)
 | exc x s h=>exact fun ρ' v c d H' e r=>p ρ' v c d H' e.leave (r0.leave r)
 | bad=>exact p
end
section
variable {g:G} {F:Fr} {X:Cx} {W:WX} {a b c e:Expr} {es:List Expr} {da db dc:DE} {pos:Pos} {ρ:List Addr} {zσ:ZS} {zh:ZH} {σ:L2.St} {H:Hp}
def QH6 (a:Addr) (o:Option D) (z:Z) (h:ZH):Out Z:=match z with
 | .e a'=>if a'=a then match o with
   | some x=>.ok (.d x) h
   | none=>.bad
   else .bad
 | _=>.bad
def QA6 (a:Addr) (x:ZX) (f:Nat) (d:DE):DE:=fun s h=>(d s h).bnd fun z h1=>QH6 a (((X0 x.c).zip x.vs).lookup f) z h1
theorem QH7 {x:ZX} {cls:Value} {d:Option Addr} (rx:RX g F.U0 F.H0 x cls d) (R:RelH g F ρ zh H):RX g (UO F ρ zh) H x cls d:=by
 obtain ⟨h1,h2,h3⟩:=rx;refine ⟨h1,h2,h3.imp id fun ⟨n,dd,fvs,e,nu,hd,k,r⟩=>?_⟩;obtain ⟨h4,h5⟩:=R.stb dd _ hd nu;exact ⟨n,dd,fvs,e,h5,h4,k,RDs.mono R.stb _ _ r⟩
theorem QH8 {o:Expr} {n:Str} {a:Addr} {oe:Obj} {pn:List (Addr × Obj)} {x:ZX} {cls:Value} {dx:Option Addr} (f:Nat) (rx:RX g F.U0 F.H0 x cls dx) (C:XfC X.K (g.cad x.c)) (hz:Zc cls dx oe) (hf:∃ vs,oe.data = .fields vs) (hno:PySem.W.findIn X.K (.ref (g.cad x.c)) n=some none)
   (ha:ZE g F (X.suite a ((a,oe)::pn)) W o da) (hn:n=fnm f:=by decide +kernel) (hb:attributeBase o n X.env (eval o X.env)=eval o X.env:=by rfl):ZE g F (X.suite a ((a,oe)::pn)) W (.Attribute o n pos) (QA6 a x f da):=by
 subst hn;refine PE.imp (pe_xf (a:=a) C hno (cls:=cls) (d:=dx) hz hf ha hb) fun σ H Q ⟨ρ,zσ,zh,RH,RS,p⟩=>?_;refine ⟨ρ,zσ,zh,RH,RS,Post.bnd p fun ρ1 z zh1 v1 H1 e1 R1 rz p1=>?_⟩;unfold QH6 at p1;cases z with
 | d _=>exact p1.elim
 | r _=>exact p1.elim
 | e a' =>
   simp only at p1
   split at p1
   . rename_i ea;subst ea;cases kl:((X0 x.c).zip x.vs).lookup f with
     | none=>rw [kl] at p1; exact p1.elim
     | some y =>
       rw [kl] at p1;have rz:v1 = .ref a':=rz;subst rz;obtain ⟨h1,h2,h3⟩:=QH7 rx R1;rcases h3 with ⟨ev,_⟩ | ⟨_,dd,fvs,ed,nu,hd,hk,r⟩
       . rw [ev] at kl;simp at kl
       . obtain ⟨_,u,l1,l2⟩:=QE2 hk r kl;exact ⟨rfl,h1,dd,fvs,u,ed,hd,l1,Post.done R1 p1 l2⟩
   . exact p1.elim
end
structure RoomC (k:Nat) (A:Around):Prop where
 dp:A.depth+3*k+5<recursionLimit
 un:A.units+16*k+200<cLine
theorem RoomC.mono {j k:Nat} {A:Around} (r:RoomC k A) (h:j<=k):RoomC j A:=⟨Nat.lt_of_le_of_lt (by omega) r.dp,Nat.lt_of_le_of_lt (by omega) r.un⟩
theorem RoomC.deeper {k:Nat} {A:Around} (r:RoomC (k+1) A) (env:Env):RoomC k (A.deeper env) :=
 ⟨Nat.lt_of_le_of_lt (by show A.depth+1+3*k+5<=A.depth+3*(k+1)+5; omega) r.dp,Nat.lt_of_le_of_lt (by show A.units+3+16*k+200<=A.units+16*(k+1)+200; omega) r.un⟩
theorem Room.cool {k:Nat} {A:Around} (r:Room k A):RoomC k A:=⟨r.dp,r.un⟩
structure FnC (P:Program) (w:World) (K:UZ9) (mg:Str->Option Value) (base:Heap) (k:Nat) (f:Addr) (fd:FuncData) (ps:List Str) (sp:Sp):Prop where
 len:∀ vs H Q E,sp vs H Q E->vs.length=ps.length
 run:∀ (A:Around) (outer:List Env) (s:Shared) (H:Hp) (args:Args) (us:List Value) (vs:List V) (Q:VK) (E:XK),RoomC k A->Env0 P w K mg base A outer s H->BindsTo s fd args (ps.zip us)->Vals vs us->sp vs H Q E ->
   codeAny (model P w) A (.call (.ref f) args) (CR (L2.CX P w) outer P w H s Q E) s
def cxC (P:Program) (w:World) (K:UZ9) (mg:Str->Option Value) (base:Heap) (N:List Str) (qual:Str) (scope:Scope) (f:Addr) (cd:Value) (A:Around) (outer:List Env) (s:Shared) (H:Hp) (E:XK):Cx :=
 { cxOf (L2.CX P w) P w K mg base N qual scope f cd A outer s H E with calm:=false }
section
variable {P:Program} {w:World} {K:UZ9} {mg:Str->Option Value} {base:Heap} {k:Nat} {f:Addr} {name qual:Str} {params:Arguments} {body:List Stmt} {scope:Scope} {dV kV doc pm cdv ct oc:Value} {an od:Option Addr} {osl:Array (Option Value)} {N ps:List Str} {sp:Sp}
theorem QA7 {cd:Value} {A:Around} {outer:List Env} {s s1:Shared} {H:Hp} {E:XK} {us:List Value} {vs:List V} (S:FnScope N ps scope) (e0:Env0 P w K mg base A outer s H) (hl:vs.length=ps.length) (r:Vals vs us)
   (x:InCallC s s.heap.objs.size (bindL (envOfC qual scope s.heap.objs.size f cd).kindOf (ps.zip us) fun _=>none) (cellsFrom (s.heap.objs.size+1) scope.names []) (bindC (envOfC qual scope s.heap.objs.size f cd).kindOf (ps.zip us) fun _=>none) s1) :
   Inv (cxC P w K mg base N qual scope f cd A outer s H E) [] (L2.start N vs) H s1:=by
 have e1:Env0 P w K mg base { A with handled:=none } outer s H:=⟨e0.frames,e0.mod,e0.bs,e0.bsz,e0.funs,e0.frf,e0.hok,e0.bare⟩;have I:Inv (cxOf (L2.CX P w) P w K mg base N qual scope f cd { A with handled:=none } outer s H E) [] (L2.start N vs) H s1:=inv_start S rfl e1 hl r x;have o:=I.ok;exact ⟨⟨o.mod,o.kind,o.glob,o.blt,o.above,o.inj,o.has,o.cab,(fun z=>Bool.noConfusion (show false=true from z)),Around.frames_deeper e0.frames,o.stk,o.exf,o.bs,o.bsz,o.noex,o.exfs,o.funs,o.frf⟩,I.os,I.bare,I.base,I.loc,I.cell,I.free,I.freeC,I.pin,I.hok,I.len⟩
theorem fn_ofC (lk:K.lookup f=some ⟨oc,od,.func (PySem.W.fnOf name qual params body scope dV kV doc pm an cdv ct),osl⟩) (hcd:PySem.W.codeIn K cdv qual=true) (S:FnScope N ps scope) (len:∀ vs H Q E,sp vs H Q E->vs.length=ps.length)
   (hbody:∀ (A:Around) (outer:List Env) (s:Shared) (H:Hp) (vs:List V) (Q:VK) (E:XK),RoomC k (A.deeper (envOfC qual scope s.heap.objs.size f cdv))->sp vs H Q E ->
     ∃ t,PSs (cxC P w K mg base N qual scope f cdv A outer s H E) body t/\t { nx:=fun _ H'=>Q .non H',rt:=Q } (L2.start N vs) H) :
   FnC P w K mg base (k+1) f (PySem.W.fnOf name qual params body scope dV kV doc pm an cdv ct) ps sp:=by
 refine ⟨len,fun A outer s H args us vs Q E hr e0 hb r hsp=>?_⟩;have hl:=len _ _ _ _ hsp;have KX:K.In s.heap:=e0.mod.kin.keeps fun b o e=>(e0.bs b o e).1;have lim:s.heap.NoLimit:=e0.mod.nolimit.keeps fun b o e=>(e0.bs b o e).1
 have kinds:∀ y∈ps.zip us,scope.names.lookup y.1=some .local\/(scope.names.lookup y.1=some .cell/\((cellsFrom (s.heap.objs.size+1) scope.names []).lookup y.1).isSome=true):=fun ⟨n,v⟩ hy =>
   (S.par n (List.of_mem_zip hy).1).imp id fun q=>⟨q,PySem.W.cellsFrom_some _ _ _ (.inl q)⟩
 refine codeAny_call_function (by have:=hr.dp; omega) (KX _ _ lk) rfl S.co S.gen rfl (PySem.W.codeRec_of KX hcd) (hb _ _ _ _ ?_);refine wpAny_newFunctionEnv_cells S.kind kinds fun env he s1 x=>?_;subst he;refine ⟨lim.keeps x.toInCall.keep,codeAny_func ?_⟩;obtain ⟨t,ht,hq⟩:=hbody A outer s H vs Q E (hr.deeper _) hsp;have I:Inv (cxC P w K mg base N qual scope f cdv A outer s H E) [] (L2.start N vs) H s1:=QA7 S e0 hl r x;refine wpAny_mono (ht.run [] s1 (L2.start N vs) H _ I hq) (fun fl s' hs=>?_) fun e s' hs=>hs
 have fin:∀ {σ':L2.St} {H':Hp} {v:V} {u:Value},Inv (cxC P w K mg base N qual scope f cdv A outer s H E) [] σ' H' s'->RelV v u->Q v H'->CE outer P w H s Q u s' :=
   fun {σ' H' v u} J rv q=>⟨v,H',J.os,J.bare,J.base,J.hok,rv,q⟩
 cases fl with
 | ret u =>
   obtain ⟨v,σ',H',J,rv,q⟩:=hs;exact fin J rv q
 | next =>
   obtain ⟨σ',H',J,q⟩:=hs;exact fin (v:=V.non) (u:=Value.none) J rfl q
 | brk =>
   obtain ⟨_,_,_,q⟩:=hs;exact q.elim
 | cont =>
   obtain ⟨_,_,_,q⟩:=hs;exact q.elim
end
section
variable {g:G} {F:Fr} {X:Cx} {W:WX} {k:Nat} {f:Addr} {fd:FuncData} {ps N:List Str} {M:Sem} {e o:Expr} {es:List Expr} {d:DA} {da:DE} {x qual:Str} {p pos:Pos}
theorem QH9 {P:Program} {w:World} {K:UZ9} {mg:Str->Option Value} {base:Heap} {st:Stmt} {ds:DS} {dvs:List V} {kws:List (Str × V)} (T:FunD K x qual (defArgs st) (defBody st) (defScope st) dvs kws f fd) (S:FnScope N ps (defScope st))
   (hbody:∀ (F:Fr) (cdv:Value) (A:Around) (outer:List Env) (s:Shared) (H:Hp) (E:XK),RoomC k (A.deeper (envOfC qual (defScope st) s.heap.objs.size f cdv)) ->
     ZSs g F (cxC P w K mg base N qual (defScope st) f cdv A outer s H E) (fun c d _ H=>E c d H) (defBody st) ds) :
   FnC P w K mg base (k+1) f fd ps (lowF g (M9 ps.length N.length ds)):=by
 obtain ⟨oc,od,dV,kV,doc,pm,an,cdv,ct,osl,rfl,lk,hcd,_,_⟩:=T.ex;refine fn_ofC lk hcd S (fun vs H Q E ⟨F,ρ,zs,zh,_,rz,p⟩=>?_) fun A outer s H vs Q E hr ⟨F,ρ,zs,zh,RH,rz,p⟩=>?_
 . unfold M9 at p
   split at p
   . rename_i h;rw [rz.length,h]
   . exact p.elim
 . refine ⟨_,hbody F cdv A outer s H E hr,?_⟩;unfold M9 at p
   split at p
   . rename_i hl;have hvl:vs.length=ps.length:=by rw [rz.length,hl]
     have hN:ps.length<=N.length:=by
       have q:=congrArg List.length S.pre;rw [List.length_take] at q;omega
     refine ⟨ρ,zs.map some++List.replicate (N.length - ps.length) none,zh,RH,⟨?_,fun i z h=>?_⟩,?_⟩
     . unfold L2.start;simp only [List.length_append,Xq5,List.length_replicate];omega
     . by_cases hi:i<zs.length
       . rw [Xr2 (by simpa using hi),Xq7] at h;cases e:zs[i]? with
         | none=>rw [e] at h; cases h
         | some z' =>
           rw [e] at h;cases h;obtain ⟨v,h1,h2⟩:=RZs.get rz e;refine ⟨v,?_,h2⟩;unfold L2.start;rw [Xr2 (by rw [Xq5]; omega),Xq7,h1]; rfl
       . rw [List.getElem?_append_right (by simpa using hi),List.getElem?_replicate] at h
         split at h <;> cases h
     . cases hd:ds (zs.map some++List.replicate (N.length - ps.length) none) zh with
       | nx s' h'=>rw [hd] at p; exact fun ρ' σ' H' e R S'=>p ρ' .non H' e R (rz_non.mpr rfl)
       | rt z h'=>rw [hd] at p; exact p
       | exc x' s' h'=>rw [hd] at p; exact fun ρ' σ' cls dx H' e R S' q=>p ρ' cls dx H' e R q
       | bk s' h'=>rw [hd] at p; exact p.elim
       | ct s' h'=>rw [hd] at p; exact p.elim
       | bad=>rw [hd] at p; exact p.elim
   . exact p.elim
structure FnTC (P:Program) (w:World) (K:UZ9) (mg:Str->Option Value) (base:Heap) (g:G) (k:Nat) (f:Addr) (fd:FuncData) (ps:List Str) (M:Sem):Prop where
 ok:FnC P w K mg base k f fd ps (lowF g M)
 kp:PySem.W.keepIn K (.ref f)=true
 bi:Binds K fd ps []
theorem FnTC.mono {P:Program} {w:World} {K:UZ9} {mg:Str->Option Value} {base:Heap} {j:Nat} (T:FnTC P w K mg base g k f fd ps M) (h:k<=j):FnTC P w K mg base g j f fd ps M :=
 ⟨⟨T.ok.len,fun A outer s H args us vs Q E hr=>T.ok.run A outer s H args us vs Q E (hr.mono h)⟩,T.kp,T.bi⟩
def CalC (P:Program) (w:World) (g:G) (mg:Str->Option Value) (base:Heap) (k:Nat) (x:Str) (ps:List Str) (M:Sem):Prop:=∃ f fd,mg x=some (.ref f)/\FnTC P w g.K mg base g k f fd ps M
theorem CalC.mono {P:Program} {w:World} {mg:Str->Option Value} {base:Heap} {j:Nat} (T:CalC P w g mg base k x ps M) (h:k<=j):CalC P w g mg base j x ps M:=let ⟨f,fd,a,b⟩:=T; ⟨f,fd,a,b.mono h⟩
end
theorem QO4 {P:Program} {K:UZ9} {cd:Value} {file:Str} (h:QS9 K cd file=true) (hP:P.main.file=file):Qy0 P K cd:=by
 unfold QS9 at h
 split at h
 . rename_i c
   split at h
   . rename_i oc od vs sl lk
     split at h
     . rename_i z tk hv;have ez:z=file:=of_decide_eq_true h;exact ⟨c,oc,od,vs,sl,z,tk,rfl,lk,hv,by rw [ez,hP]; exact beq_self_eq_true _⟩
     . cases h
   . cases h
 . cases h
theorem QO5 {K:UZ9} {cc D:Addr} (h:QM2 K cc D=true):Qi7 K cc D:=by
 unfold QM2 at h
 split at h
 . rename_i oc od D' sl lk;have e:D'=D:=of_decide_eq_true h;subst e;exact ⟨oc,od,sl,lk⟩
 . cases h
theorem DefC.defS {P:Program} {K:UZ9} {d:DefC} (e:Xb4 K (d.ad K)=d.val) (c:d.ok K=true) (hP:P.main.file=d.file):∃ fd,DefS P K (d.cl K) (d.ad K) d.name d.qual d.params d.body d.scope fd:=by
 obtain ⟨kp,c2⟩:=He.ba c;obtain ⟨kc,c3⟩:=He.ba c2;unfold Xb4 at e;cases q:K.lookup (d.ad K) with
 | none=>rw [q] at c3; cases c3
 | some o =>
   obtain ⟨oc,od,dt,osl⟩:=o;rw [q] at c3 e;cases dt with
   | func fd =>
     obtain ⟨n1,n2,n3,n4,n5,n6,n7,n8,n9,n10,n11,n12,n13,n14,n15⟩:=fd;have e2:(some (n1,n2,n3,n4,n5,n6,n7.map (fun p=>(p.1,0)),n15):He.FnW)=some (d.name,d.qual,d.params,.stmts d.body,d.scope,mainGlobals,[(("__class__" : Str),0)],builtinsNs):=e;simp only [Option.some.injEq,Prod.mk.injEq] at e2;obtain ⟨h1,h2,h3,h4,h5,h6,h7,h8⟩:=e2;subst h1 h2 h3 h4 h5 h6 h8;obtain ⟨k1,c4⟩:=He.ba c3;obtain ⟨k2,c5⟩:=He.ba c4;obtain ⟨k3,k4⟩:=He.ba c5
     have en:∃ cc,n7=[(("__class__" : Str),cc)]/\QM2 K cc (d.cl K)=true:=by
       match n7,h7,k4 with
       | [(nm,cc)],h7,k4 =>
         have h7:[(nm,0)]=[(("__class__" : Str),0)]:=h7;simp only [List.cons.injEq,Prod.mk.injEq,and_true] at h7;exact ⟨cc,by rw [h7],k4⟩
     obtain ⟨cc,e7,kcc⟩:=en;subst e7;cases n8 <;> first | exact ⟨_,⟨oc,od,osl,n9,n10,n11,n12,n13,n14,cc,rfl,q,k1,QO5 kcc,QO4 k2 hP⟩,Option.isSome_iff_exists.mp kc,kp⟩ | cases k3
   | _=>cases c3
theorem DefS.binds {P:Program} {K:UZ9} {D f:Addr} {name qual:Str} {params:Arguments} {body:List Stmt} {scope:Scope} {fd:FuncData} {ps:List Str} (T:DefS P K D f name qual params body scope fd)
   (h:∀ kV doc pm an cdv ct cc,∀ us:List Value,us.length=ps.length->bindArgs (PySem.W.ksFn name qual params body scope .none kV doc pm an cdv ct cc) ⟨us,[]⟩=pure (ps.zip us)):Binds K fd ps []:=by
 obtain ⟨oc,od,osl,kV,doc,pm,an,cdv,ct,cc,rfl,_⟩:=T.ex;exact Binds.all fun us hl=>h _ _ _ _ _ _ _ us hl
section
variable {fa:List He.Fa} {ex:Exs} {fn:List He.DefD} {st:List DefZ} {su:List DefC} {K:UZ9}
theorem SaysS.all (c:SaysS fa ex fn st su K):((fa.all fun f=>f.ok K) && ((ex.all fun f=>f K) && ((fn.all fun d=>d.ok K) && ((st.all fun d=>d.ok K) && su.all fun d=>d.ok K))))=true:=congrArg (fun z:He.AlD=>z.1) c
theorem SaysS.fact (c:SaysS fa ex fn st su K) (i:Nat) {f:He.Fa} (h:fa[i]? = some f:=by rfl):f.ok K=true:=List.all_eq_true.mp (He.ba c.all).1 f (Xq8 h)
theorem SaysS.xs (c:SaysS fa ex fn st su K) (i:Nat) {f:UZ9->Bool} (h:ex[i]? = some f:=by rfl):f K=true:=List.all_eq_true.mp (He.ba (He.ba c.all).2).1 f (Xq8 h)
theorem SaysS.lists (c:SaysS fa ex fn st su K):((fn.map fun d=>He.fnW K d.at_)=fn.map He.DefD.val/\(st.map fun d=>QC1 K (d.ad K))=st.map DefZ.val)/\(su.map fun d=>Xb4 K (d.ad K))=su.map DefC.val:=by
 obtain ⟨h1,h2⟩:=List.append_inj (congrArg (fun z:He.AlD=>z.2) c) (by simp);exact ⟨List.append_inj h1 (by simp),h2⟩
theorem SaysS.def_ (c:SaysS fa ex fn st su K) (i:Nat) {d:He.DefD} (h:fn[i]? = some d:=by rfl):∃ fd,FunD K d.name d.qual d.params d.body d.scope (d.dvs K) (d.kws K) (He.fAd K d.at_) fd:=by
 have c2:=(He.ba (He.ba (He.ba c.all).2).2).1;have e2:(fn.map fun d=>He.fnW K d.at_)[i]? = (fn.map He.DefD.val)[i]?:=by rw [c.lists.1.1]
 rw [Xq7,Xq7,h] at e2;exact He.DefD.funD (Option.some.inj e2) (List.all_eq_true.mp c2 d (Xq8 h))
theorem SaysS.st_ (c:SaysS fa ex fn st su K) (i:Nat) {d:DefZ} (h:st[i]? = some d:=by rfl):QC1 K (d.ad K)=d.val/\d.ok K=true:=by
 have c2:=(He.ba (He.ba (He.ba (He.ba c.all).2).2).2).1;have e2:(st.map fun d=>QC1 K (d.ad K))[i]? = (st.map DefZ.val)[i]?:=by rw [c.lists.1.2]
 rw [Xq7,Xq7,h] at e2;exact ⟨Option.some.inj e2,List.all_eq_true.mp c2 d (Xq8 h)⟩
theorem SaysS.su_ (c:SaysS fa ex fn st su K) (i:Nat) {d:DefC} (h:su[i]? = some d:=by rfl):Xb4 K (d.ad K)=d.val/\d.ok K=true:=by
 have c2:=(He.ba (He.ba (He.ba (He.ba c.all).2).2).2).2;have e2:(su.map fun d=>Xb4 K (d.ad K))[i]? = (su.map DefC.val)[i]?:=by rw [c.lists.2]
 rw [Xq7,Xq7,h] at e2;exact ⟨Option.some.inj e2,List.all_eq_true.mp c2 d (Xq8 h)⟩
end
theorem QY6 {x:Str} {K:UZ9} (h:xOex x K=true):OexC K (He.ga K x):=by
 obtain ⟨h1,h⟩:=He.ba h;obtain ⟨h2,h⟩:=He.ba h;obtain ⟨h3,h⟩:=He.ba h;obtain ⟨h4,h5⟩:=He.ba h;refine ⟨?_,He.eqO_ok h2,of_decide_eq_true h3,of_decide_eq_true h4,h5⟩
 split at h1
 . rename_i dd cd sl lk
   split at h1
   . rename_i C' bm k0 k1 k2 k3 n k5 hm hs;obtain ⟨a1,h1⟩:=He.ba h1;obtain ⟨a2,h1⟩:=He.ba h1;obtain ⟨a3,h1⟩:=He.ba h1;obtain ⟨a4,a5⟩:=He.ba h1;have e1:C'=He.ga K x:=of_decide_eq_true a1;have e2:n = "ValueError.__new__" := of_decide_eq_true a2;have e3:cd.hasDel=false:=by simpa using a3
     subst e2;obtain ⟨nm,bs,mro,ns,qn,hd,sn,sb,ab,col,del⟩:=cd;dsimp only at hm e3 a4;subst hm e3 a4
     have es:sl = #[k0,k1,k2,k3,some (.builtin "ValueError.__new__"),k5]:=by
       rw [<- hs]
     rw [es,e1] at lk;exact ⟨nm,qn,ns,bs,bm,sn,sb,ab,col,dd,k0,k1,k2,k3,k5,lk,a5⟩
   . cases h1
 . cases h1
theorem C9 {x:Str} {K:UZ9} (h:Qk5 x K=true):SupV K (He.ga K x) (He.ga K x):=by
 obtain ⟨h1,h⟩:=He.ba h;obtain ⟨h2,h⟩:=He.ba h;obtain ⟨h3,h⟩:=He.ba h;obtain ⟨h4,h5⟩:=He.ba h;exact ⟨QY6 h5,of_decide_eq_true h1,He.eqO_ok h2,of_decide_eq_true h3,He.eqO_ok h4⟩
theorem Qc7 {x:Str} {K:UZ9} (h:QL6 x K=true):PySem.W.findIn K (.ref (He.ga K x)) "__init__" = some (some (.ref (He.fAd K (x,some "__init__"))))/\PySem.W.typeIn K (.ref (He.fAd K (x,some "__init__")))=some (.type "function"):=by
 obtain ⟨h1,h2⟩:=He.ba h;exact ⟨He.eqO_ok h1,of_decide_eq_true h2⟩
theorem QI0 {K:UZ9} {C:Addr} (h:ExcC K C):XfC K C:=⟨h.hg,h.hk,h.hs,h.hd⟩
open TL
section
variable {QZ:Z->ZH->Prop} {QB:Bool->ZH->Prop} {QA:List Z->ZH->Prop} {E:ZX->ZH->Prop} {K:KS} {s:ZS} {h:ZH} {da db dc:DE} {ds:DA} {d d':DS} {ta tb:DT}
theorem wps_raiseX {c:Nat}:(Qc6 c ds s h).wp K=(ds s h).wp (fun zs h1=>S9 (G0 zs) fun xs=>(xs.length=(X0 c).length/\0<xs.length/\xs.length<=100)/\K.ex ⟨c,xs.reverse⟩ s h1) (fun x h1=>K.ex x s h1):=by
 unfold Qc6;rw [wp_bndS];refine Y5 fun zs h1=>?_;unfold QH5;cases G0 zs with
 | none=>rw [optP_none]; exact wps_bad
 | some xs =>
   rw [optP_some];dsimp only
   by_cases hc:xs.length=(X0 c).length/\0<xs.length/\xs.length<=100
   . rw [if_pos hc,wps_exc];exact propext ⟨fun q=>⟨hc,q⟩,fun q=>q.2⟩
   . rw [if_neg hc,wps_bad];simp [hc]
theorem wp_fldX {a:Addr} {x:ZX} {f:Nat}:(QA6 a x f da s h).wp QZ E=(da s h).wp (fun z h1=>(QH6 a (((X0 x.c).zip x.vs).lookup f) z h1).wp QZ E) E:=by
 unfold QA6;rw [wp_bnd]
theorem excAt_e {a:Addr} {x:D}:QH6 a (some x) (.e a) h = .ok (.d x) h:=by
 unfold QH6;simp
def QI1 (i:Nat) (v:Z) (k:Int) (o:Option ZO) (s:ZS) (h:ZH):OutS:=match o with
 | some (.dl xs)=>match v with
   | .d w=>match ixN xs.length k with
     | some j=>.nx s (h.set i (.dl (xs.set j w)))
     | none=>.bad
   | _=>.bad
 | some (.zl xs)=>match ixN xs.length k with
   | some j=>.nx s (h.set i (.zl (xs.set j v)))
   | none=>.bad
 | _=>.bad
theorem wps_idx {v:Z}:(QS4 da db v s h).wp K=(da s h).wp (fun x h1=>(db s h1).wp (fun y h2=>(Qo3 v x y s h2).wp K) (fun x h1=>K.ex x s h1)) (fun x h1=>K.ex x s h1):=by
 unfold QS4;rw [wp_bndS];exact Y5 fun x h1=>by rw [wp_bndS]
theorem setIx_r {v:Z} {i:Nat} {k:Int}:Qo3 v (.r i) (.d (.int k)) s h=QI1 i v k h[i]? s h:=id rfl
theorem setIx_dl {i:Nat} {w:D} {k:Int} {xs:List D}:(QI1 i (.d w) k (some (.dl xs)) s h).wp K=S9 (ixN xs.length k) fun j=>K.nx s (h.set i (.dl (xs.set j w))):=by
 unfold QI1;dsimp only;cases ixN xs.length k with
 | none=>rw [optP_none]; dsimp only; exact wps_bad
 | some j=>rw [optP_some]; dsimp only; exact wps_nx
theorem QS5 {f:Addr->OutS} {z:Z} {h':ZH} (w:∀ a,(f a).wp ⟨fun _ _=>False,fun z1 h1=>z1=z/\h1=h',fun _ _=>False,fun _ _=>False,fun _ _ _=>False⟩) (q:K.rt z h'):(C0 f).wp K:=by
 have e:∀ a,f a = .rt z h':=fun a=>by
   have w:=w a;cases k:f a with
   | rt z1 h1=>rw [k,wps_rt] at w; rw [w.1,w.2]
   | nx s h=>rw [k,wps_nx] at w; exact w.elim
   | bk s h=>rw [k,wps_bk] at w; exact w.elim
   | ct s h=>rw [k,wps_ct] at w; exact w.elim
   | exc x s h=>rw [k,wps_exc] at w; exact w.elim
   | bad=>rw [k,wps_bad] at w; exact w.elim
 rw [Qz7 e,wps_rt];exact q
theorem wps_wipeS {i:Nat} {o:OutS}:(Qf1 i o).wp K=o.wp ⟨fun s h=>K.nx (s.set i none) h,K.rt,fun s h=>K.bk (s.set i none) h,fun s h=>K.ct (s.set i none) h,fun _ _ _=>False⟩:=by
 cases o with
 | nx s h=>unfold Qf1; rw [wps_nx,wps_nx]
 | rt z h=>unfold Qf1; rw [wps_rt,wps_rt]
 | bk s h=>unfold Qf1; rw [wps_bk,wps_bk]
 | ct s h=>unfold Qf1; rw [wps_ct,wps_ct]
 | exc x s h=>unfold Qf1; rw [wps_bad,wps_exc]
 | bad=>unfold Qf1; rw [wps_bad]; rw [wps_bad]
theorem cl_2:(X0 2).length=1:=id rfl
theorem cl_3:(X0 3).length=2:=id rfl
end
end Zl
end
section
namespace Zl
open PySem PySem.Spec PyProof.Rows L2
open TL
section
variable {QZ:Z->ZH->Prop} {QB:Bool->ZH->Prop} {QA:List Z->ZH->Prop} {E:ZX->ZH->Prop} {K:KS} {s:ZS} {h:ZH} {da db dc:DE} {ds:DA} {d d':DS} {ta tb:DT}
end
end Zl
end
section
namespace Zl
open PySem PySem.Spec PyProof.Rows L2
section
variable {g:G} {U:Addr->Prop} {H:Hp}
end
section
variable {g:G} {F:Fr} {X:Cx} {W:WX} {a b c e o f:Expr} {es:List Expr} {da db dc:DE} {d:DA} {pos apos cpos:Pos} {ρ:List Addr} {zσ:ZS} {zh:ZH} {σ:L2.St} {H:Hp}
end
inductive Lk (q:Hp->Prop):Hp->Prop
 | done {H:Hp}:q H->Lk q H
 | lock {H:Hp} (d:Addr) (u:HO):H d=some u->Mut (some u)->(∀ od,Lk q (upd H d (.frz od u)))->Lk q H
section
variable {g:G} {F:Fr}
end
section
variable {X:Cx} {CX:CXT} {k:Nat} {f C:Addr} {fd:FuncData} {ps:List Str} {sp:Sp} {E:L2.St->XK} {x:Str} {p pos:Pos} {t:TA} {e:Expr} {es:List Expr}
end
section
variable {CX:CXT} {k:Nat} {f C:Addr} {fd:FuncData} {ps:List Str} {sp:Sp} {dvs:List V} {ds:List Value} {E:L2.St->XK} {x:Str} {p:Pos} {t:TA}
end
open TL
section
variable {QZ:Z->ZH->Prop} {QB:Bool->ZH->Prop} {QA:List Z->ZH->Prop} {E:ZX->ZH->Prop} {K:KS} {s:ZS} {h:ZH} {da db dc:DE} {ds:DA} {d d':DS} {ta tb:DT}
end
end Zl
end
section
namespace Zl
open PySem PySem.Spec PyProof.Rows L2
abbrev TSx:=Addr->Value->Option Addr->TS
def Qi8 (K:UZ9) (Wout:WX) (D:Ends):List (Value × Nat × TSx)->WX
 | []=>Wout
 | (c,i,ts)::r=>fun cls d σ H=>∃ b,PySem.W.exmOne K cls c=some b /\
     (b=true -> ∀ a,H a=none->ts a cls d { nx:=fun σ' H'=>D.nx (σ'.set i none) H',rt:=D.rt,bk:=fun σ' H'=>D.bk (σ'.set i none) H',ct:=fun σ' H'=>D.ct (σ'.set i none) H' } (σ.set i (some (.ref a))) H) /\
     (b=false->Qi8 K Wout D r cls d σ H)
inductive HdsAs (X:Cx):List ExceptHandler->List (Value × Nat × TSx)->Prop
 | nil:HdsAs X [] []
 | cons {x n:Str} {c:Value} {i:Nat} {ts:TSx} {b₀:Stmt} {suite:List Stmt} {np pos':Pos} {hds:List ExceptHandler} {l:List (Value × Nat × TSx)} (hc:Names X x c) (hi:X.N[i]? = some n) (hln:X.env.kindOf n=some .local)
     (hsu:∀ (a:Addr) (oe:Obj) (cls:Value) (d:Option Addr) (pn:List (Addr × Obj)),Zc cls d oe->(∃ vs,oe.data = .fields vs)->PSs (X.suite a ((a,oe)::pn)) (b₀::suite) (ts a cls d)) (r:HdsAs X hds l) :
     HdsAs X (.ExceptHandler (some (.Name x np)) (some n) (b₀::suite) pos'::hds) ((c,i,ts)::l)
section
variable {X:Cx} {body:List Stmt} {h₀:ExceptHandler} {hds:List ExceptHandler} {l:List (Value × Nat × TSx)} {pos:Pos} {tb:WX->TS} {Wout:WX}
theorem Qo6 (hs:X.stack=X.env::X.outer) (hf:X.env.frame=some X.env.locals) (hN:X.N.Nodup) (tk:Takes X Wout)
   (hb:∀ (W:WX) (pn:List (Addr × Obj)) (xe:Value->Shared->Prop),Takes (X.tr pn xe) W->PassesOwn (model X.prog X.w) X.A X.env xe->PSs (X.tr pn xe) body (tb W))
   (hh:HdsAs X (h₀::hds) l):PS X (.Try body (h₀::hds) [] [] pos) (fun D σ H=>tb (Qi8 X.K Wout D l) D σ H):=by
 refine ⟨fun pins s σ H D I h=>?_⟩;have ok:=I.ok;have hfr:X.A.frames=some (X.env::X.outer):=by rw [ok.frames,hs]
 refine wpAny_Try_except ?_
 refine wpAny_mono ((hb (Qi8 X.K Wout D l) (X.pn++pins) (fun e s₁=>wpAny (model X.prog X.w) X.A (noteFrame e X.env) (fun _ s₂=>wpAny (model X.prog X.w) X.A (setFlight e none) (fun _ s₃ =>
   wpAny (model X.prog X.w) X.A (handleBy e X.env (h₀::hds)) (SP X pins D) X.xe s₃) X.xe s₂) X.xe s₁) (fun u s' xx=>?_) PassesOwn.looking).run [] s σ H D (I.toTry _) h) (fun f s1 hsp=>?_) (fun e s1 he=>he)
 . obtain ⟨a, B,sI,pins',σ',H',cls,d,rfl,J',nb,up,sky,na,os,ag,w⟩:=xx;have J:Inv X pins σ' H' sI:=J'.ofTry ok;have sky':Sky B (X.env::X.outer) a (Zc cls d) X.env.locals s'.heap:=by rw [<- hs]; exact sky
   show wpAny (model X.prog X.w) X.A (noteFrame (.ref a) X.env) _ _ _;refine Sky.land Zc.steady hfr hf sky' fun h3 fl3 up3=>?_;have J3:Inv X pins σ' H' { s' with heap:=h3 }:=J.landed nb fl3.1 (up.trans up3) os ag;obtain ⟨oe3,vs3,he3,hz3,hd3⟩:=fl3.there
   have notFr:∀ {h:Heap} {o:Obj} {vs:Array Value},h.FunFrames B (X.env::X.outer)->h.get? a=some o->o.data = .fields vs->a∉frs (X.env::X.outer):=fun {h o vs} ff e dd hm=>by
     obtain ⟨_,o',e',hnf⟩:=ff.mem hm;rw [e] at e'; cases e';exact hnf _ dd
   have nfr:=notFr fl3.2.2.1 he3 hd3;have nL:a≠X.env.locals:=fun z=>nfr (List.mem_filterMap.mpr ⟨X.env,Xr1,by rw [hf,z]⟩)
   have nF:a∉X.fs:=fun hm=>by
     obtain ⟨e,he,q⟩:=List.mem_filterMap.mp hm;exact nfr (List.mem_filterMap.mpr ⟨e,Xq9 _ he,q⟩)
   have S3:=J3.suite he3 hd3 na nL nF
   have go : ∀ {hds':List ExceptHandler} {l':List (Value × Nat × TSx)},HdsAs X hds' l'->Qi8 X.K Wout D l' cls d σ' H' ->
       wpAny (model X.prog X.w) X.A (handleBy (.ref a) X.env hds') (SP X pins D) X.xe { s' with heap:=h3 }:=by
     intro hds' l' hk
     induction hk with
     | nil =>
       intro w;refine wpAny_handleBy_nil ?_;obtain ⟨k1,k2,k3,oe,vs,T,oT,ts',he,hz,hd,h1,hr⟩:=id fl3;unfold PySem.passOn;refine wpAny_bind (wpAny_field he hd h1 ?_);rw [if_neg (show ¬ ((Value.ref T == Value.none)=true) from by simp)]
       have fin:wpAny (model X.prog X.w) X.A (setFlight (.ref a) X.env.frame) (fun _ s4=>wpAny (model X.prog X.w) X.A (throw (.ref a):PySem.Sem Flow) (SP X pins D) X.xe s4) X.xe { s' with heap:=h3 }:=by
         rw [hf];refine HandSPX.setFlight_upZ fl3 fun h4 hh4 up4=>wpAny_throw (tk _ _ ?_);exact ⟨a,B,sI,pins,σ',H',cls,d,rfl,J,nb,(up.trans up3).trans up4,.inr (.inr (by rw [hs]; exact hh4)),na,os,ag,w⟩
       first
         | exact wpAny_bind (wpAny_pure (wpAny_bind fin))
         | exact wpAny_bind fin
     | @cons x n c i ts b₀ suite np pos' hds2 l2 hc hi hln hsu r ih =>
       intro w;obtain ⟨b,hb1,hyes,hno⟩:=w;have hloc:Loc X.env.scope n:=.inl hln;refine wpAny_handleBy_cons (codeAny_handlers_test ?_) (by intro q; cases q);have LT:PySem.W.Looks (model X.prog X.w) h3 (typeOf (.ref a)) cls:=fun A Q E s k q=>wpAny_typeOf_ref (k _ _ he3) (by rw [hz3.1]; exact q);have LM:=PySem.W.exm_one (M:=model X.prog X.w) (J3.kIn) LT hb1
       have test:∀ {Q:Value->Shared->Prop} {E:Value->Shared->Prop},Q c { s' with heap:=h3 }->wpAny (model X.prog X.w) (X.A.mark (some (.ref a))) (eval (.Name x np) X.env) Q E { s' with heap:=h3 }:=fun {Q E} q=>by
         obtain ⟨hg,hdbg,hm | ⟨hm,hv,hnn⟩⟩:=hc
         . exact ld_glob (X:=X.suite a ((a,oe3)::(X.pn++pins))) S3 hg hm q hdbg
         . exact ld_blt (X:=X.suite a ((a,oe3)::(X.pn++pins))) S3 hg hm hv q hnn hdbg
       refine test (LM.here ?_);cases b with
       | true =>
         refine codeAny_handlers_suite_as ?_;refine HandSPX.lands_againZ fl3 fun h4 fl4 up4=>?_;have J4:Inv X pins σ' H' { s' with heap:=h4 }:=J.landed nb fl4.1 ((up.trans up3).trans up4) os ag;obtain ⟨oe4,vs4,he4,hz4,hd4⟩:=fl4.there;have S4:=J4.suite he4 hd4 na nL nF;refine store_ok (X:=X.suite a ((a,oe4)::(X.pn++pins))) (v:=.ref a) S4 hN hi hloc rfl (fun s5 S5=>?_) (.inr hln);refine wpAny_mono ((hsu a oe4 cls d (X.pn++pins) hz4 ⟨_,hd4⟩).run [] s5 _ H' _ S5 (hyes rfl a na)) (fun f s6 hsp=>?_) (fun _ _ z=>False.elim z)
         have end_:∀ {σ6:L2.St} {H6:Hp} {Q:Shared->Prop},Inv (X.suite a ((a,oe4)::(X.pn++pins))) [] σ6 H6 s6->(∀ s7,Inv X pins (σ6.set i none) H6 s7->Q s7) ->
             wpAny (model X.prog X.w) X.A (do bindName X.env n .none; unbindBehindTheSuite X.env n pos') (fun _ s7=>Q s7) X.xe s6:=fun {σ6 H6 Q} S6 hq=>gone_ok (S6.unsuite ok) hN hi hln hq
         cases f with
         | next =>
           obtain ⟨σ6,H6,S6,q6⟩:=hsp;exact end_ S6 fun s7 J7=>⟨_,_,J7,q6⟩
         | brk =>
           obtain ⟨σ6,H6,S6,q6⟩:=hsp;exact end_ S6 fun s7 J7=>⟨_,_,J7,q6⟩
         | cont =>
           obtain ⟨σ6,H6,S6,q6⟩:=hsp;exact end_ S6 fun s7 J7=>⟨_,_,J7,q6⟩
         | ret u =>
           obtain ⟨v6,σ6,H6,S6,r6,q6⟩:=hsp;exact end_ S6 fun s7 J7=>⟨_,_,_,J7,r6,q6⟩
       | false =>
         exact ih (hno rfl)
   exact go hh w
 . cases f with
   | next =>
     obtain ⟨σ',H',J',q⟩:=hsp;exact wpAny_execs_nil ⟨σ',H',J'.ofTry ok,q⟩
   | brk =>
     obtain ⟨σ',H',J',q⟩:=hsp;exact ⟨σ',H',J'.ofTry ok,q⟩
   | cont =>
     obtain ⟨σ',H',J',q⟩:=hsp;exact ⟨σ',H',J'.ofTry ok,q⟩
   | ret u =>
     obtain ⟨v,σ',H',J',r,q⟩:=hsp;exact ⟨v,σ',H',J'.ofTry ok,r,q⟩
end
abbrev Cls:=Hit × Nat × (Addr->ZX->DS)
def Qk6:List Cls->ZX->DS
 | [],x,s,h=>.exc x s h
 | (hit,i,su)::r,x,s,h=>match hit x.c with
   | some true=>C0 fun a=>Qf1 i (su a x (s.set i (some (.e a))) h)
   | some false=>Qk6 r x s h
   | none=>.bad
def Qa9 (body:DS) (l:List Cls):DS:=fun s h=>match body s h with
 | .exc x s1 h1=>Qk6 l x s1 h1
 | o=>o
inductive ZHds (g:G) (X:Cx):List ExceptHandler->List Cls->List (Value × Nat × TSx)->Prop
 | nil:ZHds g X [] [] []
 | cons {x n:Str} {cv:Value} {i:Nat} {su:Addr->ZX->DS} {hit:Hit} {b₀:Stmt} {suite:List Stmt} {np pos':Pos} {hds:List ExceptHandler} {l:List Cls} {l':List (Value × Nat × TSx)} (hc:Names X x cv) (hh:QV9 X.K g cv hit)
     (hsu:∀ (F':Fr) (a:Addr) (oe:Obj) (cls:Value) (d:Option Addr) (pn:List (Addr × Obj)) (x:ZX),RX g F'.U0 F'.H0 x cls d->hit x.c=some true->Zc cls d oe->(∃ vs,oe.data = .fields vs)->ZSs g F' (X.suite a ((a,oe)::pn)) W0 (b₀::suite) (su a x))
     (r:ZHds g X hds l l') (hi:X.N[i]? = some n:=by rfl) (hln:X.env.kindOf n=some .local:=by rfl) :
     ZHds g X (.ExceptHandler (some (.Name x np)) (some n) (b₀::suite) pos'::hds) ((hit,i,su)::l)
       ((cv,i,fun a cls d D σ H=>∃ (F':Fr) (x:ZX),RX g F'.U0 F'.H0 x cls d/\hit x.c=some true/\lowS g F' W0 (su a x) D σ H)::l')
section
variable {g:G} {F:Fr} {X:Cx} {W:WX} {pos:Pos} {ρ:List Addr} {zσ:ZS} {zh:ZH} {σ:L2.St} {H:Hp}
theorem ZHds.as {hds:List ExceptHandler} {l:List Cls} {l':List (Value × Nat × TSx)} (h:ZHds g X hds l l'):HdsAs X hds l':=by
 induction h with
 | nil=>exact .nil
 | cons hc hh hsu r hi hln ih=>exact .cons hc hi hln (fun a oe cls d pn z1 z2=>⟨fun pins s σ H D I ⟨F',x,er,et,q⟩=>(hsu F' a oe cls d pn x er et z1 z2).run pins s σ H D I q⟩) ih
theorem ZHds.wish {hds:List ExceptHandler} {l:List Cls} {l':List (Value × Nat × TSx)} (hl:ZHds g X hds l l') {D:Ends} {x:ZX} {s1:ZS} {h1:ZH} (p:PostS g F W ρ zh H (Qk6 l x s1 h1) D)
   {ρ1:List Addr} {σ1:L2.St} {cls:Value} {dx:Option Addr} {H1:Hp} (e1:Ext F ρ zh H ρ1 h1 H1) (R1:RelH g F ρ1 h1 H1) (S1:RelS g (UO F ρ1 h1) H1 ρ1 s1 σ1) (rx:RX g (UO F ρ1 h1) H1 x cls dx):Qi8 X.K W D l' cls dx σ1 H1:=by
 induction hl with
 | nil =>
   unfold Qk6 at p;exact p ρ1 σ1 cls dx H1 e1 R1 S1 rx
 | @cons xx n cv i su hit b₀ suite np pos' hds2 l2 l3 hc hh hsu r hi hln ih =>
   unfold Qk6 at p;have hx:=rx.2.1;cases kh:hit x.c with
   | none=>rw [kh] at p; exact p.elim
   | some b =>
     rw [kh] at p;refine ⟨b,by rw [rx.1]; exact hh _ _ hx kh,fun hb a ha=>?_,fun hb=>?_⟩
     . subst hb;refine ⟨F.at_ ρ1 h1 H1,x,rx,kh,ρ1,s1.set i (some (.e a)),h1,R1.enter,S1.set (z:=.e a) rfl,(Qz8 (W:=W) (PostS.shift e1 ?_)).enter R1⟩;have p:PostS g F W ρ zh H (C0 fun a=>Qf1 i (su a x (s1.set i (some (.e a))) h1)) D:=p;unfold C0 at p
       split at p
       . rename_i hall;have e:=hall a;dsimp only at e;rw [e];exact p
       . exact p.elim
     . subst hb;exact ih p
theorem QI2 {body:List Stmt} {h₀:ExceptHandler} {hds:List ExceptHandler} {db:DS} {l:List Cls} {l':List (Value × Nat × TSx)} (hs:X.stack=X.env::X.outer) (hf:X.env.frame=some X.env.locals) (hN:X.N.Nodup) (tk:Takes X W)
   (hb:∀ (W':WX) (pn:List (Addr × Obj)) (xe:Value->Shared->Prop),Takes (X.tr pn xe) W'->PassesOwn (model X.prog X.w) X.A X.env xe->ZSs g F (X.tr pn xe) W' body db)
   (hl:ZHds g X (h₀::hds) l l'):ZS1 g F X W (.Try body (h₀::hds) [] [] pos) (Qa9 db l):=by
 refine PS.imp (Qo6 (tb:=fun W'=>lowS g F W' db) hs hf hN tk hb hl.as) fun D σ H ⟨ρ,zσ,zh,RH,RS,p⟩=>?_;refine ⟨ρ,zσ,zh,RH,RS,?_⟩;unfold Qa9 at p;cases k:db zσ zh with
 | exc x s1 h1 =>
   rw [k] at p;simp only at p;intro ρ1 σ1 cls dx H1 e1 R1 S1 rx;exact hl.wish p e1 R1 S1 rx
 | bad=>rw [k] at p; exact p.elim
 | nx s h=>rw [k] at p; exact p
 | rt s h=>rw [k] at p; exact p
 | bk s h=>rw [k] at p; exact p
 | ct s h=>rw [k] at p; exact p
end
section
variable {K:KS} {s:ZS} {h:ZH} {d:DS}
def KS.tryM (l:List Cls) (K:KS):KS:=⟨K.nx,K.rt,K.bk,K.ct,fun x s h=>(Qk6 l x s h).wp K⟩
theorem wps_tryMany {l:List Cls}:(Qa9 d l s h).wp K=(d s h).wp (K.tryM l):=by
 with_unfolding_all
   unfold Qa9;cases d s h with
   | exc x s1 h1=>rfl
   | _=>rfl
variable {x:ZX} {l:List Cls}
theorem tryM_rt {z:Z}:(K.tryM l).rt z h=K.rt z h:=id rfl
theorem tryM_ex:(K.tryM l).ex x s h=(Qk6 l x s h).wp K:=id rfl
theorem QI3 {hit:Hit} {i:Nat} {su:Addr->ZX->DS} (hx:hit x.c=some true):Qk6 ((hit,i,su)::l) x s h=C0 fun a=>Qf1 i (su a x (s.set i (some (.e a))) h):=by
 show (match hit x.c with
   | some true=>_
   | some false=>_
   | none=>_)=_
 rw [hx]
theorem QY7 {hit:Hit} {i:Nat} {su:Addr->ZX->DS} (hx:hit x.c=some false):Qk6 ((hit,i,su)::l) x s h=Qk6 l x s h:=by
 show (match hit x.c with
   | some true=>_
   | some false=>_
   | none=>_)=_
 rw [hx]
end
def lowX (g:G) (a:Addr) (oe:Obj) (x:ZX) (M:Sem):Sp:=fun vs H Q E=>∃ F ρ zs zh cls dx,RX g F.U0 F.H0 x cls dx/\Zc cls dx oe/\(∃ vs,oe.data = .fields vs)/\RelH g F ρ zh H/\RZs g (UO F ρ zh) H ρ zs vs/\Post g F (fun c d _ H'=>E c d H') ρ [] zh [] H (M zs zh) Q
structure FnX (P:Program) (w:World) (K:UZ9) (mg:Str->Option Value) (base:Heap) (g:G) (k:Nat) (f:Addr) (fd:FuncData) (ps:List Str) (M:Addr->ZX->Sem):Prop where
 len:∀ a oe x vs H Q E,lowX g a oe x (M a x) vs H Q E->vs.length=ps.length
 run:∀ (a:Addr) (oe:Obj) (x:ZX) (A:Around) (outer:List Env) (s:Shared) (H:Hp) (args:Args) (us:List Value) (vs:List V) (Q:VK) (E:XK),RoomC k A->Env0 P w K mg base A outer s H->s.heap.get? a=some oe->H a=none->a∉frs outer->BindsTo s fd args (ps.zip us)->Vals vs us->lowX g a oe x (M a x) vs H Q E ->
   codeAny (model P w) A (.call (.ref f) args) (CR (L2.CX P w) outer P w H s Q E) s
section
variable {P:Program} {w:World} {K:UZ9} {mg:Str->Option Value} {base:Heap} {k:Nat} {f:Addr} {name qual:Str} {params:Arguments} {body:List Stmt} {scope:Scope} {dV kV doc pm cdv ct oc:Value} {an od:Option Addr} {osl:Array (Option Value)} {N ps:List Str} {g:G} {M:Addr->ZX->Sem} {a:Addr} {oe:Obj}
end
section
variable {g:G} {F:Fr} {X:Cx} {W:WX} {k:Nat} {f:Addr} {fd:FuncData} {ps N:List Str} {M:Addr->ZX->Sem} {e o:Expr} {es:List Expr} {d:DA} {da:DE} {qual:Str} {p pos:Pos}
structure FnTX (P:Program) (w:World) (K:UZ9) (mg:Str->Option Value) (base:Heap) (g:G) (k:Nat) (f:Addr) (fd:FuncData) (ps:List Str) (M:Addr->ZX->Sem):Prop where
 ok:FnX P w K mg base g k f fd ps M
 kp:PySem.W.keepIn K (.ref f)=true
 bi:Binds K fd ps []
theorem FnTX.mono {P:Program} {w:World} {K:UZ9} {mg:Str->Option Value} {base:Heap} {j:Nat} (T:FnTX P w K mg base g k f fd ps M) (h:k<=j):FnTX P w K mg base g j f fd ps M :=
 ⟨⟨T.ok.len,fun a oe x A outer s H args us vs Q E hr=>T.ok.run a oe x A outer s H args us vs Q E (hr.mono h)⟩,T.kp,T.bi⟩
def CalX (P:Program) (w:World) (g:G) (mg:Str->Option Value) (base:Heap) (k:Nat) (x:Str) (ps:List Str) (M:Addr->ZX->Sem):Prop:=∃ f fd,mg x=some (.ref f)/\FnTX P w g.K mg base g k f fd ps M
theorem CalX.mono {P:Program} {w:World} {mg:Str->Option Value} {base:Heap} {nm:Str} {j:Nat} (T:CalX P w g mg base k nm ps M) (h:k<=j):CalX P w g mg base j nm ps M:=let ⟨f,fd,a,b⟩:=T; ⟨f,fd,a,b.mono h⟩
end
section
variable {g:G} {F:Fr} {X:Cx} {W:WX} {e:Expr} {da:DE} {pos:Pos}
end
section
variable {QZ:Z->ZH->Prop} {E:ZX->ZH->Prop} {s:ZS} {h:ZH} {da:DE}
end
open TL
section
variable {g:G} {F:Fr} {X:Cx} {W:WX} {e:Expr} {da:DE} {pos pos':Pos} {x:Str}
end
section
variable {h:ZH}
end
end Zl
end
section
namespace Zl
open PySem PySem.Spec PyProof.Rows L2
open TL
section
variable {X:Cx}
theorem Qv2:CallR X (.type "tuple") (fun xs H Q=>∃ p ys,xs=[.ref p]/\SqL X.K H p ys /\ ∀ l od,H l=none->od.dict=none->Q (.ref l) (upd H l (.frz od (.tup ys)))):=by
 intro pins s σ H xs us Q I r h;obtain ⟨p,ys,rfl,hq,q⟩:=h;obtain ⟨u,rfl,rx⟩:=vals1 r;cases rx;obtain ⟨its,r',pl,hz⟩:=I.list hq;have hlen:=r'.length;refine call_tuple_list pl.isList (fun h' kp=>?_) (by simp only [List.size_toArray] <;> omega);have I1:Inv X pins σ H { s with heap:=h' }:=I.kept (t':=s.toks) kp
 have I2:Inv X pins σ (upd H h'.objs.size (.frz { cls:=.type "tuple",data:=.seq its.toArray } (.tup ys))) { s with heap:=h'.push { cls:=.type "tuple",data:=.seq its.toArray } } :=
   I1.laid (t':=s.toks) (fun b o e=>Heap.get?_push_of_some _ e) (Nat.le_refl _) (show ObjOk X.prog X.w _ _ _ (.frz _ (.tup ys)) from ⟨Heap.get?_push_size _ rfl,hz,its,r',IsTup.new _ _⟩)
 exact ⟨.ref h'.objs.size,_,I2,rfl,q _ _ (I1.hok.fresh (Nat.le_refl _)) rfl⟩
def rTI (K:UZ9):V->List V->Hp->VK->Prop:=fun x xs H Q=>∃ p,∃ ys:List Str,∃ z j,x = .ref p/\xs=[.str z]/\SqT K H p (ys.map V.str)/\ys[j]? = some z/\(∀ m,m<j->ys[m]? ≠ some z)/\Q (.int (j:Nat)) H
def tTIx (K:UZ9) (to:TE) (t:TA):TE:=fun σ H Q=>to σ H fun x H1=>(∃ a od ys,x = .ref a/\H1 a=some (.frz od (.tup ys))/\od.dict=none)/\t σ H1 fun xs H2=>rTI K x xs H2 Q
variable {o e:Expr} {es:List Expr} {to:TE} {t:TA} {apos cpos:Pos}
theorem pe_tIx (ho:PE X o to) (ha:PA X (e::es) t)
   (hbase:attributeBase o "index" X.env (eval o X.env)=eval o X.env:=by rfl)
   (hfew:((backTo cpos (starEach (e::es) X.env)).all (fun x=>!x.1) && (backToKw cpos (keywordEach [] X.env)).all (fun x=>x.1.isSome)
     && decide ((e::es).length+([]:List Keyword).length+(if ([]:List Keyword).isEmpty then 0 else 1)<30))=true:=by rfl)
   (hline:(apos.endLine == cpos.line)=true:=by rfl) (hs:starEach (e::es) X.env=(false,eval e X.env)::starEach es X.env:=by rfl) (hplain:(backTo cpos (starEach es X.env)).any (·.1)=false:=by rfl) :
   PE X (.Call (.Attribute o "index" apos) (e::es) [] cpos) (tTIx X.K to t):=by
 refine ⟨fun pins s σ H Q I h=>?_⟩;refine wpAny_Call_method_late hbase hfew hline rfl (thn (ho.run pins s σ H _ I h) fun v s1 ⟨x,H1,I1,r1,ty,q1⟩=>?_);obtain ⟨a,od,ys,rfl,hf,hd⟩:=ty;cases r1;obtain ⟨hg,_,its,_,o2,hg2,hc,_⟩:=I1.hok a _ hf;rw [hg] at hg2;cases hg2;refine ⟨"tuple", "tuple.index",PySem.F.plainAttrs_tuple,PySem.F.slot_tuple_index,PySem.F.type_tuple_index,⟨_,hg,hc⟩,(fun b e=>by cases e; exact ⟨_,hg,hd⟩),?_⟩;have hA:=ha.run cpos pins s1 σ H1 _ I1 q1;rw [hs] at hA ⊢;refine Calls.callWith_builtin (by show (false || (backTo cpos (starEach es X.env)).any (·.1))=false; rw [hplain] <;> rfl) (Calls.evalArgs_plain ?_);exact thn hA fun us s2 ⟨vs,H2,I2,r2,q2⟩=>mt_tup_index pins s2 σ H2 (.ref a) vs (.ref a) us Q I2 rfl r2 q2
end
section
variable {g:G} {F:Fr} {X:Cx} {W:WX} {e o:Expr} {es:List Expr} {da:DE} {d:DA} {pos apos cpos:Pos} {p:Pos}
def QA8:Z->Z
 | .d (.tupN xs)=>.d (.tup xs)
 | z=>z
def Qr8 (d:DE):DE:=fun s h=>(d s h).bnd fun z h1=>.ok (QA8 z) h1
theorem QY8 {U:Addr->Prop} {H:Hp} {ρ:List Addr} {z:Z} {v:V} (r:RZ g U H ρ z v):RZ g U H ρ (QA8 z) v:=by
 unfold QA8
 split
 . exact QC6 r
 . exact r
theorem Qr9 (he:ZE g F X W e da):ZE g F X W e (Qr8 da):=by
 refine PE.imp he fun σ H Q ⟨ρ,zσ,zh,RH,RS,p⟩=>?_;exact ⟨ρ,zσ,zh,RH,RS,Post.bnd p fun ρ1 z zh1 v H1 e1 R1 rz p1=>Post.done R1 p1 (QY8 rz)⟩
def opTupleN:OpN:=fun zs h=>match zs with
 | [.d (.tupN xs)]=>.ok (.d (.tupN xs)) h
 | [z]=>match B5 z h with
   | some xs=>.ok (.d (.tupN xs)) h
   | none=>.bad
 | _=>.bad
theorem QA9:QL9 g (fun xs H Q=>(∃ p ys,xs=[.ref p]/\SqL g.K H p ys /\ ∀ l od,H l=none->od.dict=none->Q (.ref l) (upd H l (.frz od (.tup ys)))) \/ ∃ a ys,xs=[.ref a]/\SqT g.K H a ys/\Q (.ref a) H) opTupleN:=by
 intro F W ρ zσ zh σ H zs vs Q RH rz p;unfold opTupleN at p
 split at p
 . rename_i xs;obtain ⟨v,rfl,q⟩:=Z9 rz;obtain ⟨a,us,od,rfl,_,hs,_,hr⟩:=rd_tupN.mp q;exact .inr ⟨a,us,rfl,.inl (.inr ⟨od,hs⟩),Post.done RH p q⟩
 . rename_i z _;obtain ⟨v,rfl,q⟩:=Z9 rz;cases hx:B5 z zh with
   | none=>rw [hx] at p; exact p.elim
   | some xs =>
     rw [hx] at p;obtain ⟨a,us,rfl,hs,hr⟩:=O9 RH q hx;exact .inl ⟨a,us,rfl,SqL.of hs,fun l od hl hd=>Z2 RH hl p fun U nu s=>rd_tupN.mpr ⟨l,us,od,rfl,nu,upd_same,hd,RDs.mono s xs us hr⟩⟩
 . exact p.elim
theorem QI4 (hK:X.K=g.K) (hm:X.mg "tuple" = none) (ha:ZA g F X W [e] d) (hg:Gl X "tuple" := by rfl) (he:starEach [e] X.env=(false,eval e X.env)::starEach [] X.env:=by rfl):ZE g F X W (.Call (.Name "tuple" p) [e] [] pos) (Y2 opTupleN d) :=
 Qg1 (CallR.or Qv2 call_tupleT) (by rw [hK]; exact QA9) hg hm (by decide +kernel) ha (by decide) (by decide) he (by rfl)
def QI5:OpM:=fun x zs h=>match x,zs with
 | .d (.tupN xs),[.d (.str t)]=>match S8 xs with
   | some ss=>if t∈ss then .ok (.d (.int (ss.idxOf t:Nat))) h else .bad
   | none=>.bad
 | _,_=>.bad
def Qy1 (z:Z) (_:ZH):Bool:=match z with
 | .d (.tupN _)=>true
 | _=>false
theorem Qi9 {t:List Nat}:∀ {ss:List (List Nat)} {m:Nat},m<ss.idxOf t -> ∀ h:m<ss.length,ss[m]≠t
 | a :: r,m,hlt,h=>by
   rw [List.idxOf_cons] at hlt;cases e:a == t with
   | true=>rw [e] at hlt; exact absurd hlt (by simp)
   | false =>
     rw [e] at hlt;simp only [cond_false] at hlt;cases m with
     | zero=>simpa using e
     | succ m=>simpa using Qi9 (ss:=r) (m:=m) (by omega) (by simpa using h)
theorem z_tIx (hK:X.K=g.K) (ho:ZE g F X W o da) (ha:ZA g F X W (e::es) d)
   (hb:attributeBase o "index" X.env (eval o X.env)=eval o X.env:=by rfl)
   (hfew:((backTo cpos (starEach (e::es) X.env)).all (fun x=>!x.1) && (backToKw cpos (keywordEach [] X.env)).all (fun x=>x.1.isSome)
     && decide ((e::es).length+([]:List Keyword).length+(if ([]:List Keyword).isEmpty then 0 else 1)<30))=true:=by rfl)
   (hline:(apos.endLine == cpos.line)=true:=by rfl) (hs:starEach (e::es) X.env=(false,eval e X.env)::starEach es X.env:=by rfl) (hplain:(backTo cpos (starEach es X.env)).any (·.1)=false:=by rfl) :
   ZE g F X W (.Call (.Attribute o "index" apos) (e::es) [] cpos) (P6 Qy1 QI5 da d):=by
 refine PE.imp (pe_tIx ho ha hb hfew hline hs hplain) fun σ H Q ⟨ρ,zσ,zh,RH,RS,p⟩=>?_;refine ⟨ρ,zσ,zh,RH,RS,Post.bnd p fun ρ1 z zh1 v H1 e1 R1 rz p1=>?_⟩
 split at p1
 . rename_i ht;unfold Qy1 at ht
   split at ht
   . rename_i xs;obtain ⟨a,vs,od,rfl,nu,q,hd,r⟩:=rd_tupN.mp rz;refine ⟨⟨a,od,vs,rfl,q,hd⟩,ρ1,zσ,zh1,R1,RS.mono e1,PostA.bndE p1 fun ρ2 zs zh2 us H2 e2 R2 rzs p2=>?_⟩;unfold QI5 at p2
     split at p2
     . rename_i xs' t hx;cases hx;obtain ⟨u,rfl,ru⟩:=Z9 rzs;cases hss:S8 xs with
       | none=>rw [hss] at p2; exact p2.elim
       | some ss =>
         rw [hss] at p2;simp only at p2
         split at p2
         . rename_i hm;have r2:=RDs.mono e2.stb _ _ r;obtain rfl:vs=(ss.map mkS).map V.str:=C7 hss r2;have hl:=List.idxOf_lt_length_of_mem hm;rw [hK];refine ⟨a,ss.map mkS,mkS t,ss.idxOf t,rfl,by rw [(rz_str.mp ru).1],.inl (.inr ⟨od,(e2.stb a _ q nu).1⟩),?_,fun m hlt hq=>?_,Post.done R2 p2 (rz_int.mpr rfl)⟩
           . rw [Xq7,Xq6 hl,List.getElem_idxOf];rfl
           . rw [Xq7] at hq;cases hg:ss[m]? with
             | none=>rw [hg] at hq; cases hq
             | some y =>
               rw [hg] at hq;have ey:y=t:=Qt2 (Option.some.inj hq);obtain ⟨hm2,he⟩:=Xr0.mp hg;exact absurd (he.trans ey) (Qi9 hlt hm2)
         . exact p2.elim
     . exact p2.elim
   . cases ht
 . exact p1.elim
end
section
variable {QZ:Z->ZH->Prop} {E:ZX->ZH->Prop} {s:ZS} {h:ZH} {da:DE}
theorem wp_weak:(Qr8 da s h).wp QZ E=(da s h).wp (fun z h1=>QZ (QA8 z) h1) E:=by
 unfold Qr8;rw [wp_bnd];exact Y5 fun z h1=>by rw [wp_ok]
theorem weak_N {xs:List D}:QA8 (.d (.tupN xs)) = .d (.tup xs):=id rfl
theorem weak_l {xs:List D}:QA8 (.d (.lst xs)) = .d (.lst xs):=id rfl
theorem tupN_l {xs:List D}:opTupleN [.d (.lst xs)] h = .ok (.d (.tupN xs)) h:=id rfl
theorem isTupN_N {xs:List D}:Qy1 (.d (.tupN xs)) h=true:=id rfl
theorem tIx_s {ss:List (List Nat)} {t:List Nat}:QI5 (.d (.tupN (ss.map .str))) [.d (.str t)] h=if t∈ss then .ok (.d (.int (ss.idxOf t:Nat))) h else .bad:=by
 unfold QI5;dsimp only;rw [asStrs_map]
end
end Zl
end
section
namespace Zl
open PySem PySem.Spec PyProof.Rows L2
open TL
def opLIx:OpM:=fun x zs h=>match B5 x h,zs with
 | some xs,[.d (.str t)]=>match S8 xs with
   | some ss=>if t∈ss then .ok (.d (.int (ss.idxOf t:Nat))) h else .bad
   | none=>.bad
 | _,_=>.bad
section
variable {g:G} {F:Fr} {X:Cx} {W:WX} {e o:Expr} {es:List Expr} {da:DE} {d:DA} {pos apos cpos:Pos}
theorem QB0 {ss:List (List Nat)}:((ss.map mkS).map V.str).all flatV=true:=by
 rw [List.all_eq_true];intro x hx;obtain ⟨y,_,rfl⟩:=List.mem_map.mp hx;rfl
theorem QY9 : QU9 g (rIndex g.K) opLIx:=by
 intro F W ρ zσ zh σ H zx zs x vs Q RH rx rs p;unfold opLIx at p
 split at p
 . rename_i xs t hx;obtain ⟨a,us,rfl,hq,hr⟩:=O9 RH rx hx;obtain ⟨u,rfl,ru⟩:=Z9 rs;cases hss:S8 xs with
   | none=>rw [hss] at p; exact p.elim
   | some ss =>
     rw [hss] at p;simp only at p
     split at p
     . rename_i hm;obtain rfl:us=(ss.map mkS).map V.str:=C7 hss hr;have hl:=List.idxOf_lt_length_of_mem hm;have gt:∀ m,((ss.map mkS).map V.str)[m]? = (ss[m]?).map fun y=>V.str (mkS y):=fun m=>by rw [Xq7,Xq7]; cases ss[m]? <;> rfl
       refine ⟨a,_,.str (mkS t),ss.idxOf t,.str (mkS t),rfl,by rw [(rz_str.mp ru).1],SqL.of hq,rfl,QB0,?_,?_,fun m z' hlt hz=>?_,Post.done RH p (rz_int.mpr rfl)⟩
       . rw [gt,Xq6 hl,List.getElem_idxOf];rfl
       . show (mkS t == mkS t)=true;exact beq_self_eq_true _
       . rw [gt] at hz;cases hg:ss[m]? with
         | none=>rw [hg] at hz; cases hz
         | some y =>
           rw [hg] at hz;cases hz;show (mkS y == mkS t)=false;refine beq_eq_false_iff_ne.mpr fun ey=>?_;obtain ⟨hm2,he⟩:=Xr0.mp hg;exact absurd (he.trans (Qt2 ey)) (Qi9 hlt hm2)
     . exact p.elim
 . exact p.elim
theorem z_lix (hK:X.K=g.K) (ho:ZE g F X W o da) (ha:ZA g F X W (e::es) d)
   (hb:attributeBase o "index" X.env (eval o X.env)=eval o X.env:=by rfl)
   (hfew:((backTo cpos (starEach (e::es) X.env)).all (fun x=>!x.1) && (backToKw cpos (keywordEach [] X.env)).all (fun x=>x.1.isSome)
     && decide ((e::es).length+([]:List Keyword).length+(if ([]:List Keyword).isEmpty then 0 else 1)<30))=true:=by rfl)
   (hline:(apos.endLine == cpos.line)=true:=by rfl) (hs:starEach (e::es) X.env=(false,eval e X.env)::starEach es X.env:=by rfl) (hplain:(backTo cpos (starEach es X.env)).any (·.1)=false:=by rfl) :
   ZE g F X W (.Call (.Attribute o "index" apos) (e::es) [] cpos) (P6 isLst opLIx da d) :=
 QR3 PySem.F.plainAttrs_list PySem.F.slot_list_index PySem.F.type_list_index hK mt_index (by rw [hK]; exact QY9) Qn0 ho ha hb hfew hline hs hplain
end
section
variable {h:ZH}
theorem lIx_l {ss:List (List Nat)} {t:List Nat}:opLIx (.d (.lst (ss.map .str))) [.d (.str t)] h=if t∈ss then .ok (.d (.int (ss.idxOf t:Nat))) h else .bad:=by
 unfold opLIx;rw [asList_l];dsimp only;rw [asStrs_map]
end
end Zl
end
section
namespace PySem
open PySem.Spec PyProof.Rows
section
variable {prog:Program} {w:World} {A:Around} {E:Value->Shared->Prop} {s:Shared}
end
end PySem
namespace Zl
open PySem PySem.Spec PyProof.Rows L2
def ItT (t it:Addr) (i:Nat):HO:=.ext fun h=>h.IsTupleIter it t i
section
variable {X:Cx} {pins:List (Addr × Obj)} {σ:L2.St} {H:Hp} {s s':Shared}
end
def spIt (K:UZ9) (f:Str):Sp:=fun vs H Q _=>∃ o C dx fs t ys,vs=[.ref o]/\H o=some (.ins C dx fs)/\L2.Cls K C/\L2.NoAttr K C f/\fs.lookup f=some (.ref t)/\SqT K H t ys /\ ∀ it,H it=none->Q (.ref it) (upd H it (ItT t it 0))
structure ItN (K:UZ9) (C fi:Addr):Prop where
 it:PySem.W.findIn K (.ref C) "__iter__" = some (some (.ref fi))
 itF:PySem.W.isFn K (.ref fi)=true
 nolen:PySem.W.findIn K (.ref C) "__len__" = some none
 nohint:PySem.W.findIn K (.ref C) "__length_hint__" = some none
section
variable {X:Cx} {pins:List (Addr × Obj)} {σ:L2.St} {H H0:Hp} {s:Shared} {q it t:Addr} {ys:List V}
end
def IterT (P:Program) (w:World) (K:UZ9) (mg:Str->Option Value) (base:Heap) (g:G) (k:Nat) (c f:Nat):Prop :=
 ∃ fi fd,ItN K (g.cad c) fi/\FnOk P w K mg base (L2.CX P w) k fi fd ["self"] (spIt K (fnm f))/\Binds K fd ["self"] []
theorem IterT.mono {P:Program} {w:World} {K:UZ9} {mg:Str->Option Value} {base:Heap} {g:G} {k j c f:Nat} (h:IterT P w K mg base g k c f) (l:k<=j):IterT P w K mg base g j c f :=
 let ⟨fi,fd,a,b,d⟩:=h; ⟨fi,fd,a,b.mono l,d⟩
section
variable {g:G} {F:Fr} {X:Cx} {W:WX} {k c f:Nat} {e:Expr} {d:DA} {p pos:Pos}
end
def QI6 (k:Int) (xs:List D):List D:=(List.replicate k.toNat xs).flatten
def QI7 (own:Bool):Op2:=fun x y h=>match x,y with
 | .d (.lst xs),.d (.int k)=>if -1000000<=k/\k<=1000000/\xs.length*k.toNat<=1000000 then (if own then .ok (.r h.length) (h++[.dl (QI6 k xs)]) else .ok (.d (.lst (QI6 k xs))) h) else .bad
 | _,_=>.bad
section
variable {g:G} {F:Fr} {X:Cx} {W:WX} {a b:Expr} {da db:DE} {pos:Pos}
theorem Qv3 {U:Addr->Prop} {H:Hp} {xs:List D} {vs:List V} (r:RDs g U H xs vs):∀ n:Nat,RDs g U H (List.replicate n xs).flatten (List.replicate n vs).flatten
 | 0=>rds_nil.mpr rfl
 | n+1=>by
   rw [List.replicate_succ,List.replicate_succ,List.flatten_cons,List.flatten_cons];exact r.append (Qv3 r n)
theorem QZ0 (own:Bool):LowR2 g rRep (QI7 own):=by
 intro F W ρ zσ zh σ H zx zy x y Q RH rx ry p;unfold QI7 at p
 split at p
 . rename_i xs k
   split at p
   . rename_i hl;obtain ⟨u,vs,e1,nu,q1,r1⟩:=rd_lst.mp rx;have lv:=r1.length;refine ⟨u,k,vs,e1,rz_int.mp ry,q1,by omega,by omega,by rw [lv]; exact Qm8 hl.2.2,fun l hll=>?_⟩;cases own with
     | true =>
       rw [if_pos rfl] at p;exact E7 RH hll p fun U s=>⟨_,upd_same,Qv3 (RDs.mono s xs vs r1) _⟩
     | false =>
       rw [if_neg Bool.false_ne_true] at p;exact Z2 RH hll p fun U nu s=>rd_lst.mpr ⟨l,_,rfl,nu,upd_same,Qv3 (RDs.mono s xs vs r1) _⟩
   . exact p.elim
 . exact p.elim
theorem z_rep (own:Bool) (ha:ZE g F X W a da) (hb:ZE g F X W b db):ZE g F X W (.BinOp a .Mult b pos) (Y1 (QI7 own) da db):=QT8 op_rep (QZ0 own) ha hb
end
section
variable {h:ZH}
theorem rep_o {xs:List D} {k:Int}:QI7 true (.d (.lst xs)) (.d (.int k)) h=if -1000000<=k/\k<=1000000/\xs.length*k.toNat<=1000000 then .ok (.r h.length) (h++[.dl (QI6 k xs)]) else .bad:=id rfl
theorem rep_1 {x:D} {n:Nat}:QI6 (n:Int) [x]=List.replicate n x:=by
 unfold QI6;rw [Int.toNat_natCast]
 induction n with
 | zero=>rfl
 | succ n ih=>rw [List.replicate_succ,List.flatten_cons,ih,List.replicate_succ]; rfl
end
def L8 (h:Heap) (a b:Addr):Heap:=(h.update a (Obj.mapFields (·.setIfInBounds 3 (.ref b)))).update a (Obj.mapFields (·.setIfInBounds 4 (.bool true)))
theorem Qm0 {h:Heap} {a b:Addr} {oe:Obj} {vs:Array Value} (ha:h.get? a=some oe) (hd:oe.data = .fields vs) :
   (L8 h a b).get? a=some ((oe.mapFields (·.setIfInBounds 3 (.ref b))).mapFields (·.setIfInBounds 4 (.bool true)))/\((oe.mapFields (·.setIfInBounds 3 (.ref b))).mapFields (·.setIfInBounds 4 (.bool true))).data = .fields ((vs.setIfInBounds 3 (.ref b)).setIfInBounds 4 (.bool true)):=by
 have hd3:=Obj.data_mapFields hd (·.setIfInBounds 3 (.ref b));have ha3:=Heap.get?_update_self (Obj.mapFields (·.setIfInBounds 3 (.ref b))) ha (Obj.isFreed_of_fields hd3);have hd4:=Obj.data_mapFields hd3 (·.setIfInBounds 4 (.bool true));exact ⟨Heap.get?_update_self (Obj.mapFields (·.setIfInBounds 4 (.bool true))) ha3 (Obj.isFreed_of_fields hd4),hd4⟩
theorem Qo7 {h:Heap} {a b c:Addr} (hne:a≠c):(L8 h a b).get? c=h.get? c:=by
 unfold L8;rw [Heap.get?_update_other _ _ hne,Heap.get?_update_other _ _ hne]
theorem QB1 {M:Model} {A:Around} {E:Value->Shared->Prop} {env:Env} {s:Shared} {x c:PySem.Sem Value} {Q:Flow->Shared->Prop} (hh:A.handled=none)
   (h : wpAny M A x (fun v s₁=>∃ a,v = .ref a/\wpAny M A c (fun v2 s₂=>∃ b ob vb clb oe vs cls,v2 = .ref b/\s₂.heap.get? b=some ob/\ob.cls=clb/\ob.data = .fields vb/\s₂.heap.get? a=some oe/\oe.cls=cls/\oe.data = .fields vs/\vs[1]? = some .none/\4<vs.size /\
     PySem.W.Looks M s₂.heap (isSubtype cls (.type "BaseException")) true/\PySem.W.Looks M s₂.heap (isSubtype clb (.type "BaseException")) true/\PySem.W.Looks M (L8 s₂.heap a b) (typeOf cls) (.type "type") /\
     E (.ref a) { s₂ with heap:=L8 s₂.heap a b }) E s₁) E s) :
   wpAny M A (raiseStmt env (some x) (some c)) Q E s:=by
 unfold raiseStmt;dsimp only;refine wpAny_bind (wpAny_mono h (fun v s₀ h₀=>?_) fun _ _ x=>x);obtain ⟨a,rfl,h₁⟩:=h₀;refine wpAny_bind (wpAny_holding (wpAny_mono h₁ (fun v2 s₁ h₂=>wpAny_bind (wpAny_pure ?_)) fun _ _ x=>x));obtain ⟨b,ob,vb,clb,oe,vs,cls,rfl,hb,hclb,hdb,ha,hcls,hd,h1,hi,L1,L2,L3,hE⟩:=h₂
 have isT:∀ {s:Shared} {a:Addr} {o:Obj} {vs:Array Value},s.heap.get? a=some o->o.data = .fields vs -> ∀ {Q':Bool->Shared->Prop},Q' false s->wpAny M A (isType (.ref a)) Q' E s:=by
   intro s a o vs ha hd Q' hq;simp only [isType,loadHead];refine wpAny_bind (wpAny_loadPart ha ?_);rw [hd]; exact wpAny_pure hq
 have LTa:PySem.W.Looks M s₁.heap (typeOf (.ref a)) cls:=fun A Q E s k q=>wpAny_typeOf_ref (k _ _ ha) (by rw [hcls]; exact q);have LIa:PySem.W.Looks M s₁.heap (isInstance (.ref a) (.type "BaseException")) true:=LTa.andThen L1;have LTb:PySem.W.Looks M s₁.heap (typeOf (.ref b)) clb:=fun A Q E s k q=>wpAny_typeOf_ref (k _ _ hb) (by rw [hclb]; exact q);have LIb:PySem.W.Looks M s₁.heap (isInstance (.ref b) (.type "BaseException")) true:=LTb.andThen L2;have hd3:=Obj.data_mapFields hd (·.setIfInBounds 3 (.ref b));have ha3:=Heap.get?_update_self (Obj.mapFields (·.setIfInBounds 3 (.ref b))) ha (Obj.isFreed_of_fields hd3);obtain ⟨ha4,hd4⟩:=Qm0 (b:=b) ha hd;have s3:3<vs.size:=by omega
 have s4:4<(vs.setIfInBounds 3 (Value.ref b)).size:=by rw [HotX.set_size]; exact hi
 have h14:((vs.setIfInBounds 3 (Value.ref b)).setIfInBounds 4 (Value.bool true))[1]? = some Value.none:=HotX.set_other (by decide) (HotX.set_other (by decide) h1);have hcls4:((oe.mapFields (·.setIfInBounds 3 (.ref b))).mapFields (·.setIfInBounds 4 (.bool true))).cls=cls:=by rw [Obj.cls_mapFields,Obj.cls_mapFields]; exact hcls
 have LT4:PySem.W.Looks M (L8 s₁.heap a b) (typeOf (.ref a)) cls:=fun A Q E s k q=>wpAny_typeOf_ref (k _ _ ha4) (by rw [hcls4]; exact q)
 have rest:wpAny M A (do
     let b <- isType (.ref a)
     if b=true then do
       let e <- holding [.ref a] (raisedFor (.ref a) (.ref a))
       setFlight e none
       raiseNew e
     else do
       let e <- raisedInstance (.ref a)
       setFlight e none
       raiseNew e:PySem.Sem Flow) Q E { s₁ with heap:=L8 s₁.heap a b }:=by
   refine wpAny_bind (isT (s:={ s₁ with heap:=L8 s₁.heap a b }) ha4 hd4 ?_);simp only [Bool.false_eq_true,if_false];unfold raisedInstance;refine wpAny_bind (wpAny_bind (LT4.here (wpAny_bind (L3.here ?_))));rw [if_pos (beq_self_eq_true _)];refine wpAny_pure ?_;unfold setFlight raiseNew;refine wpAny_bind (wpAny_bind (wpAny_field ha4 hd4 h14 ?_));rw [if_neg (by decide)];refine wpAny_pure (wpAny_bind (wpAny_handled ?_));rw [hh]
   first
     | exact wpAny_throw hE
     | exact wpAny_bind (wpAny_pure (wpAny_throw hE))
 dsimp only;refine wpAny_bind (wpAny_holding ?_);unfold excFromValue isExcClass;refine wpAny_bind (wpAny_bind (isT ha hd ?_));simp only [Bool.false_eq_true,if_false];refine wpAny_pure ?_;simp only [Bool.false_eq_true,if_false];refine wpAny_bind (LIa.here ?_);simp only [if_true];refine wpAny_pure ?_;have cz:(Value.ref b == Value.none)=false:=rfl;simp only [cz,Bool.false_eq_true,if_false];refine wpAny_bind (wpAny_holding (wpAny_bind (wpAny_bind (isT hb hdb ?_))));simp only [Bool.false_eq_true,if_false];refine wpAny_pure ?_;simp only [Bool.false_eq_true,if_false];refine wpAny_bind (LIb.here ?_);simp only [if_true];refine wpAny_pure ?_
 first
 | refine wpAny_bind (wpAny_pure (wpAny_bind (wpAny_setField ha hd s3 (wpAny_bind (wpAny_setField ha3 hd3 s4 ?_)))))
 | refine wpAny_bind (wpAny_setField ha hd s3 (wpAny_bind (wpAny_setField ha3 hd3 s4 ?_)))
 | refine wpAny_bind (wpAny_setField ha hd s3 (wpAny_setField ha3 hd3 s4 ?_))
 first
 | exact rest
 | (dsimp only; exact rest)
 | (refine wpAny_pure ?_; exact rest)
 | (simp only [bind_pure_comp] ; exact rest)
def MkP6 (X:Cx) (pins:List (Addr × Obj)) (σ:L2.St) (Q:XK) (u:Value) (s':Shared):Prop :=
 ∃ (a:Addr) (oe:Obj) (vs:Array Value) (sI:Shared) (H':Hp) (cls:Value) (d:Option Addr),u = .ref a/\Inv X pins σ H' sI/\(∀ b o,sI.heap.get? b=some o->s'.heap.get? b=some o)/\sI.heap.get? a=none/\s'.heap.get? a=some oe /\
   Zc cls d oe/\oe.data = .fields vs/\vs[1]? = some .none/\H' a=none/\s'.os=sI.os/\AllBare s'.gens/\Raises X cls/\4<vs.size/\Q cls d H'
def PMk6 (X:Cx) (e:Expr) (t:L2.St->Hp->XK->Prop):Prop :=
 ∀ (pins:List (Addr × Obj)) (s:Shared) (σ:L2.St) (H:Hp) (Q:XK),Inv X pins σ H s->t σ H Q->wpAny (model X.prog X.w) X.A (eval e X.env) (MkP6 X pins σ Q) X.xe s
section
variable {X:Cx} {pins:List (Addr × Obj)} {σ:L2.St} {H:Hp} {s:Shared} {a:Addr} {oe:Obj}
theorem Inv.unpin (I:Inv X (pins++[(a,oe)]) σ H s) (n0:X.s_0.heap.get? a=none) (hx:X.ex=[]) (hpn:∀ p∈X.pn++pins,p.1≠a) :
   ∃ G:Heap,(∀ b o,G.get? b=some o->s.heap.get? b=some o)/\(∀ b o,b≠a->s.heap.get? b=some o->G.get? b=some o)/\G.get? a=none/\Inv X pins σ H { s with heap:=G }:=by
 obtain ⟨p1,na,p3,p4,p5⟩:=I.pin (a,oe) (by simp);obtain ⟨G,g1,g2⟩:=restrict s.heap fun b=>decide (b≠a)
 have gk:∀ b o,b≠a->s.heap.get? b=some o->G.get? b=some o:=fun b o hb e=>by
   rw [g1 b (decide_eq_true hb)];exact e
 have ga:G.get? a=none:=g2 a (decide_eq_false fun z=>z rfl)
 have gs:∀ b o,G.get? b=some o->s.heap.get? b=some o:=fun b o e=>by
   by_cases hb:b=a
   . rw [hb,ga] at e;cases e
   . rw [<- g1 b (decide_eq_true hb)];exact e
 have ne0:∀ b o,X.s_0.heap.get? b=some o->b≠a:=fun b o e z=>by
   rw [z,n0] at e;cases e
 have neT:∀ b u,H b=some u->b≠a:=fun b u e z=>by
   rw [z,na] at e;cases e
 have cellK:∀ x c,X.env.cells.lookup x=some c -> ∀ v,s.heap.IsCell c v->G.IsCell c v:=fun x c e v ⟨o,ho,hd⟩=>⟨o,gk c o (fun z=>by
   rw [z] at ho;have ho':s.heap.get? a=some o:=ho;rw [show s.heap.get? a=some oe from p1] at ho';cases ho'
   exact p5 _ hd) ho,hd⟩
 refine ⟨G,gs,gk,ga,⟨I.ok,I.os,I.bare,⟨fun b o e n hb hq=>?_,fun b o e n hb hq=>?_,fun b o e n hq=>?_,fun b o e hq=>?_,fun b xs e=>?_,fun b o u e=>?_,fun b ps e=>?_⟩,?_,fun x c e=>?_,?_,fun x c e=>?_,fun p hp=>?_,fun b u e=>?_,I.len⟩⟩
 . exact gk b o (ne0 b o e) (I.base.keep b o e n hb hq)
 . obtain ⟨sl,q⟩:=I.base.slot b o e n hb hq;exact ⟨sl,gk b _ (ne0 b o e) q⟩
 . exact I.base.free b o e n hq
 . obtain ⟨o',q⟩:=I.base.there b o e hq;exact ⟨o',gk b o' (ne0 b o e) q⟩
 . exact I.base.tups b xs e
 . exact I.base.frzs b o u e
 . exact I.base.tbls b ps e
 . obtain ⟨m,⟨o,es,ep,ho,r⟩,hl⟩:=I.loc;refine ⟨m,⟨o,es,ep,gk _ _ (Ne.symm p3) ho,r⟩,fun i x v e1 e2 e3=>?_⟩;obtain ⟨u,r',l⟩:=hl i x v e1 e2 e3;refine ⟨u,r',?_⟩;rcases l with l | ⟨k,c,ec,z⟩
   . exact .inl l
   . exact .inr ⟨k,c,ec,cellK x c ec _ z⟩
 . obtain ⟨v,z⟩:=I.cell x c e;exact ⟨v,cellK x c e v z⟩
 . exact I.free
 . exact I.freeC x c e
 . have hp':p∈X.pn++(pins++[(a,oe)]):=by
     rw [<- List.append_assoc];exact List.mem_append_left _ hp
   obtain ⟨e,n,ne,nf,d⟩:=I.pin p hp';exact ⟨gk _ _ (hpn p hp) e,n,ne,nf,d⟩
 . refine (I.hok b u e).stay (fun c v hc q=>gk c v ?_ q) (fun c q=>q) fun c xs q=>q;rcases hc with z | z
   . rw [z];exact neT b u e
   . exact neT c _ z
theorem Qs0 {W:WX} {e c:Expr} {t t2:L2.St->Hp->XK->Prop} {pos:Pos} (hc:X.calm=true) (hx:X.ex=[]) (tk:L2.Takes X W) (he:PMk6 X e t) (hcs:PMk6 X c t2) :
   PS X (.Raise (some e) (some c) pos) (fun _ σ H=>t σ H fun cls d H'=>t2 σ H' fun _ _ H2=>W cls d σ H2):=by
 refine ⟨fun pins s σ H D I h=>?_⟩;show wpAny _ _ (do standAt pos; raiseStmt X.env (some (do let v <- eval e X.env; standAt pos; pure v)) (some (do let v <- eval c X.env; standAt pos; pure v))) _ _ _;refine wpAny_bind (wpAny_standAt (QB1 (I.ok.hd hc) (wpAny_bind (wpAny_mono (he pins s σ H _ I h) (fun u s1 hu=>wpAny_bind (wpAny_standAt (wpAny_pure ?_))) fun _ _ x=>x))));obtain ⟨a,oe,vs,sI,H',cls,d,rfl,J,k,hne,ha,hz,hd,h1,na,os,ag,r,h6,q⟩:=hu
 have n0:X.s_0.heap.get? a=none:=by
   cases z:X.s_0.heap.get? a with
   | none=>rfl
   | some o =>
     obtain ⟨o',q'⟩:=J.base.there a o z (by rw [hx]; exact fun z=>nomatch z);rw [hne] at q';cases q'
 obtain ⟨hp,g,dr,tt,os1⟩:=s1;obtain ⟨hpI,gI,drI,ttI,osI⟩:=sI;obtain rfl:os1=osI:=os;have J1:Inv X pins σ H' ⟨hp,g,dr,tt,os1⟩:=J.call' (ch:=[]) rfl (Un.kept k) (J.hok.kept k) ag (fun b z=>by simp at z);have young:∀ b o,hpI.get? b=some o->b≠a:=fun b o e z=>by rw [z] at e; rw [show hpI.get? a=none from hne] at e; cases e
 have hpn:∀ p∈X.pn++pins,p.1≠a:=fun p hp=>young _ _ (J.pin p hp).1
 have J2:Inv X (pins++[(a,oe)]) σ H' ⟨hp,g,dr,tt,os1⟩:=J1.pins_of fun p hp=>by
   rcases List.mem_append.mp hp with hp | hp
   . exact J1.pin p (List.mem_append_right _ hp)
   . rw [List.mem_singleton.mp hp];refine ⟨ha,na,fun z=>?_,fun z=>?_,fun v z=>?_⟩
     . obtain ⟨m,⟨o,es,ep,ho,_⟩,_⟩:=J.loc;exact young _ _ ho z.symm
     . obtain ⟨_,o,ho,_⟩:=J.ok.funs.mem z;exact absurd ho (by rw [n0]; exact fun z=>nomatch z)
     . have z':oe.data = .cell v:=z;rw [hd] at z';cases z'
 refine ⟨a,rfl,wpAny_bind (wpAny_mono (hcs _ _ σ H' _ J2 q) (fun u2 s2 hu2=>wpAny_bind (wpAny_standAt (wpAny_pure ?_))) fun _ _ x=>x)⟩;obtain ⟨b,ob,vb,sI2,H2,clb,db,rfl,K,k2,hne2,hb,hzb,hdb,hb1,nb,osb,agb,rb,hb6,qb⟩:=hu2;have pa:=(K.pin (a,oe) (by simp)).1;have ha2:s2.heap.get? a=some oe:=k2 _ _ pa;obtain ⟨G,gs,gk,ga,KG⟩:=Inv.unpin K n0 hx hpn
 have kf:∀ c o,G.get? c=some o->(L8 s2.heap a b).get? c=some o:=fun c o e=>by
   have hca:a≠c:=fun z=>by rw [<- z,ga] at e; cases e
   rw [Qo7 hca];exact k2 _ _ (gs _ _ e)
 obtain ⟨ha4,hd4⟩:=Qm0 (b:=b) ha2 hd;obtain ⟨r1,_⟩:=r (model X.prog X.w) s2.heap (K.kIn.keeps k2);obtain ⟨_,r2⟩:=r (model X.prog X.w) (L8 s2.heap a b) (KG.kIn.keeps kf);obtain ⟨r3,_⟩:=rb (model X.prog X.w) s2.heap (K.kIn.keeps k2);refine ⟨b,ob,vb,clb,oe,vs,cls,rfl,hb,hzb.1,hdb,ha2,hz.1,hd,h1,h6,r1,r3,r2,?_⟩;refine tk _ _ (XE.new (s':={ s2 with heap:=L8 s2.heap a b }) KG kf ga ha4 ⟨?_,?_⟩ hd4 (HotX.set_other (by decide) (HotX.set_other (by decide) h1)) (K.pin (a,oe) (by simp)).2.1 osb agb qb)
 . rw [Obj.cls_mapFields,Obj.cls_mapFields]; exact hz.1
 . have hdict:∀ (o:Obj) (f:Array Value->Array Value),(o.mapFields f).dict=o.dict:=fun o f=>by unfold Obj.mapFields; split <;> rfl
   rw [hdict,hdict]; exact hz.2
end
theorem Qy2 {X:Cx} {CX:CXT} {x:Str} {e:Expr} {es:List Expr} {ta:TA} {p pos:Pos} {C fI:Addr} {k:Nat} {fd:FuncData} {ps:List Str} {sp:Sp} (T:OexC X.K C) (iC:PySem.W.findIn X.K (.ref C) "__init__" = some (some (.ref fI))) (tI:PySem.W.typeIn X.K (.ref fI)=some (.type "function"))
   (F1:FnOk X.prog X.w X.K X.mg X.base CX k fI fd ps sp) (hr:Room (k+1) X.A) (hb:Binds X.K fd ps []) (hx:Passes CX X (fun _ _ _=>False)) (hg:Gl X x) (hm:X.mg x=some (.ref C)) (ha:PA X (e::es) ta)
   (hdb:(x == ("__debug__" : Str))=false:=by decide) (he:starEach (e::es) X.env=(false,eval e X.env)::starEach es X.env:=by rfl) (hpl:(backTo pos (starEach es X.env)).any (·.1)=false:=by rfl) :
   PMk6 X (.Call (.Name x p) (e::es) [] pos) (tMkO C sp [] ta):=by
 intro pins s σ H Q I h;obtain ⟨nm,q,N,bs,bm,sn,sub,ab,col,dd,k0,k1,k2,k3,k5,hC,hbm⟩:=T.cls;refine wpAny_Call_Name_kw (ld_glob I hg hm ?_ hdb);refine PySem.W.callWith_K (h₀:=X.base) I.ok.mod.kin T.kC (thn (ha.run pos pins s σ H _ I h) fun us s1 ⟨vs,H1,I1,r1,hz,q1⟩=>⟨I1.kIn,?_⟩) he hpl;show wpAny _ _ (call (.ref C) us) _ _ _;obtain ⟨hp,g,dr,tk,os⟩:=s1;have hsz:hp.objs.size<=hp.objs.size+1:=Nat.le_succ _;have hn:H1 (hp.objs.size+1)=none:=I1.hok.fresh hsz;have hq:=q1 (hp.objs.size+1) hn;rw [List.append_nil] at hq;have kk:∀ b o,hp.get? b=some o->((hp.push (PySem.W.kdv_tup us)).push (PySem.HandSPX.excO C hp.objs.size)).get? b=some o:=fun b o e=>Heap.get?_push_of_some _ (Heap.get?_push_of_some _ e);have hget:((hp.push (PySem.W.kdv_tup us)).push (PySem.HandSPX.excO C hp.objs.size)).get? (hp.objs.size+1)=some (PySem.HandSPX.excO C hp.objs.size):=by heap_get
 have I2:Inv X pins σ (upd H1 (hp.objs.size+1) (exo (hp.objs.size+1) C none)) ⟨(hp.push (PySem.W.kdv_tup us)).push (PySem.HandSPX.excO C hp.objs.size),g,dr,tk,os⟩ :=
   I1.laid (t':=tk) (a:=hp.objs.size+1) (o:=exo (hp.objs.size+1) C none) (h':=(hp.push (PySem.W.kdv_tup us)).push (PySem.HandSPX.excO C hp.objs.size)) kk hsz (exo_ok hget)
 have r2:Vals (V.ref (hp.objs.size+1)::vs) (Value.ref (hp.objs.size+1)::us):=.cons rfl r1
 have hl:(Value.ref (hp.objs.size+1)::us++[]).length=ps.length:=by
   have e:=r2.length;rw [F1.len _ _ _ _ hq] at e;rw [List.append_nil];exact e.symm
 have hus:us.length<=sizeLine:=by
   rw [<- Paired.length r1,sizeLine_eq];omega
 have b2:=hb _ (Value.ref (hp.objs.size+1)::us) I2.kIn hl;rw [List.append_nil] at b2
 refine wpAny_call (PySem.HandSPX.call_own F.excBase_ValueError (fun Y=>PySem.HandSPX.refsVE_contains Y bm hbm) (I1.kIn _ _ hC) (PySem.W.looks_findIn I1.kIn iC) (fun self=>PySem.W.bind_fn I1.kIn self tI) hus
   (codeAny_mono (F1.run _ X.stack _ _ ⟨Value.ref (hp.objs.size+1)::us,[]⟩ (Value.ref (hp.objs.size+1)::us) _ _ (fun _ _ _=>False) (hr.make C us []) (I2.env0.make C us []) b2 r2 hq) fun r s' hq'=>?_))
 cases r with
 | error er=>exact hx pins σ _ _ er s' I2 hq'
 | ok fl =>
   cases fl with
   | ret u =>
     obtain ⟨v,H2,os2,bare2,un2,hok2,rv,ev,d,fs,ea,ed,hd1,q2⟩:=hq';subst ev;obtain ⟨h2,g2,d2,t2,os'⟩:=s';obtain ⟨t0,G,J,kG,ge,hoe,na⟩:=mk_end0 (d2:=d2) (t2:=t2) I1 hsz kk un2 hok2 os2 bare2 ea ed hd1;exact ⟨rv,hp.objs.size+1,_,_,⟨G,g2,d2,t2,os'⟩,_,.ref C,some d,rfl,J,kG,ge,hoe,⟨rfl,rfl⟩,rfl,rfl,na,rfl,bare2,raises_own T.exC T.tyC,(by show (4:Nat)<6; decide),q2⟩
   | next=>exact False.elim hq'
   | brk=>exact False.elim hq'
   | cont=>exact False.elim hq'
def Xc0 (c:Nat) (zs:List Z):Option ZX:=match G0 zs with
 | some xs=>if xs.length=(X0 c).length/\0<xs.length/\xs.length<=100 then some ⟨c,xs.reverse⟩ else none
 | none=>none
def QI8 (c c2:Nat) (d d2:DA):DS:=fun s h=>(d s h).bndS s fun zs h1=>match Xc0 c zs with
 | some x=>(d2 s h1).bndS s fun zs2 h2=>match Xc0 c2 zs2 with
   | some _=>.exc x s h2
   | none=>.bad
 | none=>.bad
section
variable {g:G} {F:Fr} {ρ1:List Addr} {zh1:ZH} {H1:Hp}
theorem RX.mono {U U':Addr->Prop} {H H':Hp} (st:Stb U H U' H') {x:ZX} {cls:Value} {dx:Option Addr} (h:RX g U H x cls dx):RX g U' H' x cls dx:=by
 obtain ⟨h1,h2,h3⟩:=h;refine ⟨h1,h2,h3.imp id fun ⟨n,d,fvs,e,nu,hd,k,r⟩=>?_⟩;obtain ⟨h4,h5⟩:=st d _ hd nu;exact ⟨n,d,fvs,e,h5,h4,k,RDs.mono st _ _ r⟩
abbrev xdO (c:Nat) (vs:List V):HO:=.xd ((((X0 c).reverse.map fnm).zip vs).reverse)
theorem QI9 {c:Nat} {zs:List Z} {x:ZX} (h:Xc0 c zs=some x) {vs:List V} (rzs:RZs g (UO F ρ1 zh1) H1 ρ1 zs vs):∃ xs,x=⟨c,xs.reverse⟩/\(xs.length=(X0 c).length/\0<xs.length/\xs.length<=100)/\RDs g (UO F ρ1 zh1) H1 xs vs:=by
 unfold Xc0 at h;cases kd:G0 zs with
 | none=>rw [kd] at h; cases h
 | some xs =>
   rw [kd] at h;dsimp only at h
   split at h
   . rename_i hl;cases h;exact ⟨xs,rfl,hl,M5 kd rzs⟩
   . cases h
theorem QJ0 {c:Nat} {xs:List D} {vs:List V} (R1:RelH g F ρ1 zh1 H1) (hx:g.hasX c=true) (rd:RDs g (UO F ρ1 zh1) H1 xs vs) (hl:xs.length=(X0 c).length/\0<xs.length/\xs.length<=100) {dx:Addr} (n:H1 dx=none) :
   RelH g F ρ1 zh1 (upd H1 dx (xdO c vs))/\Ext F ρ1 zh1 H1 ρ1 zh1 (upd H1 dx (xdO c vs))/\RX g (UO F ρ1 zh1) (upd H1 dx (xdO c vs)) ⟨c,xs.reverse⟩ (.ref (g.cad c)) (some dx):=by
 have lv:=rd.length;obtain ⟨R2,e2,nu⟩:=R1.newF (o:=xdO c vs) n;refine ⟨R2,e2,rfl,hx,.inr ⟨fun z=>?_,dx,_,rfl,nu,upd_same,?_,?_⟩⟩
 . have:=congrArg List.length z;simp at this;rw [this] at hl;simp at hl
 . have e3:∀ l:List Str,l.length=vs.length->(l.zip vs).reverse.map (fun z=>z.1)=l.reverse:=fun l hl=>by
     rw [List.map_reverse];exact congrArg List.reverse (List.map_fst_zip (by omega))
   rw [e3 _ (by rw [Xq5,List.length_reverse]; omega),<- List.map_reverse,List.reverse_reverse]
 . have e3:∀ l:List Str,l.length=vs.length->(l.zip vs).reverse.map (fun z=>z.2)=vs.reverse:=fun l hl=>by
     rw [List.map_reverse];exact congrArg List.reverse (List.map_snd_zip (by omega))
   rw [e3 _ (by rw [Xq5,List.length_reverse]; omega)];exact (RDs.mono e2.stb _ _ rd).back
theorem QJ1 {c:Nat} {vs:List V} {H1:Hp} (hl:vs.length=(X0 c).length/\vs.length<=100) {Q:XK} (k:∀ dx,H1 dx=none->Q (.ref (g.cad c)) (some dx) (upd H1 dx (xdO c vs))) :
   vs.length<=1000 /\ ∀ a,H1 a=none->QH3 (g.cad c) ((X0 c).reverse.map fnm) (.ref a::(vs++[])) (upd H1 a (exo a (g.cad c) none))
     (fun v H2=>v = .non /\ ∃ (d:Addr) (fs:List (Str × V)),H2 a=some (exo a (g.cad c) (some d))/\H2 d=some (exd d fs)/\H1 d=none/\Q (.ref (g.cad c)) (some d) (upd (del H2 a) d (.xd fs))) (fun _ _ _=>False):=by
 refine ⟨by omega,fun a na=>⟨a,vs++[],rfl,?_,upd_same,fun dx H' n ne h1 h2 h3=>⟨rfl,dx,_,h1,h2,?_,?_⟩⟩⟩
 . rw [List.append_nil,Xq5,List.length_reverse];omega
 . rw [upd_ne ne] at n;exact n
 . rw [upd_ne ne] at n
   have eH:upd (del H' a) dx (.xd ((((X0 c).reverse.map fnm).zip (vs++[])).reverse))=upd H1 dx (.xd ((((X0 c).reverse.map fnm).zip (vs++[])).reverse)):=by
     funext b
     by_cases hb:b=dx
     . rw [hb,upd_same,upd_same]
     . rw [upd_ne hb,upd_ne hb]
       by_cases hba:b=a
       . rw [hba,del_same,na]
       . rw [del_ne hba,h3 b hba hb,upd_ne hba]
   rw [eH,List.append_nil];exact k dx n
end
section
variable {g:G} {F:Fr} {X:Cx} {W:WX} {e e2:Expr} {es es2:List Expr} {d d2:DA} {pos pos2 pos' p p2:Pos} {k c c2:Nat} {x x2:Str}
theorem QO6 (c c2:Nat) (hK:X.K=g.K) (T:ExT X.prog X.w X.K X.mg X.base g k c) (T2:ExT X.prog X.w X.K X.mg X.base g k c2) (hc:X.calm=true) (hex:X.ex=[]) (hr:Room (k+1) X.A) (tk:Takes X W) (hg:Gl X x) (hm:X.mg x=some (.ref (g.cad c))) (hg2:Gl X x2) (hm2:X.mg x2=some (.ref (g.cad c2)))
   (ha:ZA g F X W (e::es) d) (ha2:ZA g F X W (e2::es2) d2)
   (hdb:(x == ("__debug__" : Str))=false:=by decide) (he:starEach (e::es) X.env=(false,eval e X.env)::starEach es X.env:=by rfl) (hpl:(backTo pos (starEach es X.env)).any (·.1)=false:=by rfl)
   (hdb2:(x2 == ("__debug__" : Str))=false:=by decide) (he2:starEach (e2::es2) X.env=(false,eval e2 X.env)::starEach es2 X.env:=by rfl) (hpl2:(backTo pos2 (starEach es2 X.env)).any (·.1)=false:=by rfl) :
   ZS1 g F X W (.Raise (some (.Call (.Name x p) (e::es) [] pos)) (some (.Call (.Name x2 p2) (e2::es2) [] pos2)) pos') (QI8 c c2 d d2):=by
 obtain ⟨fI,fd,ps,iC,tI,F1,bi⟩:=T.ex;obtain ⟨fI2,fd2,ps2,iC2,tI2,F2,bi2⟩:=T2.ex;refine PS.imp (Qs0 hc hex tk (Qy2 T.ox iC tI F1 hr bi Qo4 hg hm ha hdb he hpl) (Qy2 T2.ox iC2 tI2 F2 hr bi2 Qo4 hg2 hm2 ha2 hdb2 he2 hpl2)) fun D σ H ⟨ρ,zσ,zh,RH,RS,p⟩=>?_;refine ⟨ρ,zσ,zh,RH,RS,PostA.toS RS p fun ρ1 zs zh1 vs H1 e1 R1 rzs p1=>?_⟩;cases kx:Xc0 c zs with
 | none=>simp only [kx] at p1; exact p1.elim
 | some y =>
   simp only [kx] at p1;obtain ⟨xs,rfl,hl,rd⟩:=QI9 kx rzs;have lv:=rd.length;refine QJ1 (g:=g) (c:=c) (vs:=vs) (Q:=fun cls dd H'=>tMkO (g.cad c2) (QH3 (g.cad c2) ((X0 c2).reverse.map fnm)) [] (lowA g F W d2) σ H' fun _ _ H2=>W cls dd σ H2) ⟨by omega,by omega⟩ fun dx n=>?_;obtain ⟨R1',e1',rx⟩:=QJ0 R1 T.hx rd hl n;have RS1:=(RS.mono e1).mono e1';refine ⟨ρ1,zσ,zh1,R1',RS1,PostA.toS RS1 (PostS.shift e1' p1) fun ρ2 zs2 zh2 vs2 H2 e2 R2 rzs2 p2=>?_⟩;cases kx2:Xc0 c2 zs2 with
   | none=>simp only [kx2] at p2; exact p2.elim
   | some y2 =>
     simp only [kx2] at p2;obtain ⟨xs2,rfl,hl2,rd2⟩:=QI9 kx2 rzs2;have lv2:=rd2.length;refine QJ1 (g:=g) (c:=c2) (vs:=vs2) (Q:=fun _ _ H2=>W (.ref (g.cad c)) (some dx) σ H2) ⟨by omega,by omega⟩ fun dx2 n2=>?_;obtain ⟨R3,e3,_⟩:=QJ0 R2 T2.hx rd2 hl2 n2;exact p2 ρ2 σ _ _ _ e3 R3 ((RS1.mono e2).mono e3) ((rx.mono e2.stb).mono e3.stb)
end
section
variable {prog:Program} {w:World} {A:Around} {E:Value->Shared->Prop} {s:Shared}
structure Nx (prog:Program) (w:World) (St:Heap->Addr->Addr->Nat->Prop) (Sq:Heap->Addr->Array Value->Prop):Prop where
 obj:∀ {h it l i},St h it l i -> ∃ o,h.get? it=some o /\ ∀ v,o.data ≠ .cell v
 at_:∀ {h h' it l i},St h it l i->(∀ o,h.get? it=some o->h'.get? it=some o)->St h' it l i
 sq:∀ {h h' l xs},Sq h l xs->(∀ o,h.get? l=some o->h'.get? l=some o)->Sq h' l xs
 item:∀ {A:Around} {E:Value->Shared->Prop} {s:Shared} {it l i items x} {Q:Value->Shared->Prop},St s.heap it l i->Sq s.heap l items->items[i]? = some x ->
   (∀ h',St h' it l (i+1)->Heap.SameBut it s.heap h'->Q x { s with heap:=h' })->wpAny (model prog w) A (Builtin.SmallTypes.nextOf (.ref it)) Q E s
 done:∀ {A:Around} {E:Value->Shared->Prop} {s:Shared} {it l i} {items:Array Value} {Q:Value->Shared->Prop},A.handled=none->St s.heap it l i->Sq s.heap l items->items[i]? = none ->
   (∀ h' e,Heap.ExtBut it s.heap h'->(∃ o,h'.get? e=some o/\o.cls = .type "StopIteration")->E (.ref e) { s with heap:=h' })->wpAny (model prog w) A (Builtin.SmallTypes.nextOf (.ref it)) Q E s
theorem nxT:Nx prog w (fun h it l i=>h.IsTupleIter it l i) (fun h l xs=>h.IsTuple l xs) where
 obj:=fun st=>let ⟨o,e,_,d⟩:=st; ⟨o,e,fun v z=>by rw [d] at z; cases z⟩
 at_:=fun st k=>st.at k
 sq:=fun x k=>let ⟨o,e,r⟩:=x; ⟨o,k o e,r⟩
 item:=fun st q hx k=>RZ.nextOf_tuple_item st q hx k
 done:=fun hh st q hx k=>RZ.nextOf_tuple_end hh st q hx k
theorem nxL:Nx prog w (fun h it l i=>h.IsListIter it l i) (fun h l xs=>h.IsList l xs) where
 obj:=fun st=>let ⟨o,e,_,d⟩:=st; ⟨o,e,fun v z=>by rw [d] at z; cases z⟩
 at_:=fun st k=>st.at k
 sq:=fun x k=>x.at k
 item:=fun st q hx k=>wpAny_nextOf_list_item st q hx k
 done:=fun hh st q hx k=>wpAny_nextOf_list_end hh st q hx k
variable {S1 S2:Heap->Addr->Addr->Nat->Prop} {Q1 Q2:Heap->Addr->Array Value->Prop}
theorem QO7 {z TI TO i1 i2 l1 l2:Addr} {k1 k2:Nat} {xs ys:Array Value} {x y a b:Value} {Q:Value->Shared->Prop} (N1:Nx prog w S1 Q1) (N2:Nx prog w S2 Q2) (D:ZipApart z TI TO i1 i2 l1 l2)
   (hz:IsZip s.heap z TI TO .none) (hTI:IsPair s.heap TI (.ref i1) (.ref i2)) (hTO:IsPair s.heap TO a b)
   (h1:S1 s.heap i1 l1 k1) (h2:S2 s.heap i2 l2 k2) (hl1:Q1 s.heap l1 xs) (hl2:Q2 s.heap l2 ys) (hx:xs[k1]? = some x) (hy:ys[k2]? = some y)
   (hQ:∀ h',IsZip h' z TI TO (rawInt s.heap.objs.size)->IsPair h' TO x y->S1 h' i1 l1 (k1+1)->S2 h' i2 l2 (k2+1)->IsPair h' s.heap.objs.size x y->h'.objs.size=s.heap.objs.size+1 ->
     (∀ c o,c≠z->c≠TO->c≠i1->c≠i2->s.heap.get? c=some o->h'.get? c=some o)->Q (.ref s.heap.objs.size) { s with heap:=h' }) :
   wpAny (model prog w) A (Builtin.«zip.__next__» ⟨[.ref z],[]⟩) (fun fin s'=>∃ v,fin = .done (.ret v)/\Q v s') E s:=by
 show wpAny _ _ (field (.ref z) 2 >>= _) _ _ _;refine wpAny_bind (wpAny_field hz rfl (x:=.bool false) rfl ?_);show wpAny _ _ (field (.ref z) 3 >>= _) _ _ _;refine wpAny_bind (wpAny_field hz rfl (x:=.ref TI) rfl (wpAny_bind (wpAny_seqItems hTI rfl ?_)));show wpAny _ _ (Builtin.SmallTypes.ownedTupleIsFree (.ref z) >>= _) _ _ _;unfold Builtin.SmallTypes.ownedTupleIsFree;refine wpAny_bind (wpAny_bind (wpAny_field hz rfl (x:=.none) rfl (wpAny_pure ?_)));simp only [if_true];refine wpAny_bind (wpAny_rule (wpAny_bind (wpAny_field hz rfl (x:=.ref TO) rfl (wpAny_bind (wpAny_setField_rec hz (by simp) fun h₁ hz₁ e₁=>?_)))))
 replace hz₁:IsZip h₁ z TI TO .ellipsis:=hz₁
 have k₁:∀ c o,c≠z->s.heap.get? c=some o->h₁.get? c=some o:=fun c o n q=>e₁.extBut _ _ n q;refine wpAny_bind ?_;simp only [List.zipIdx_cons,List.zipIdx_nil,List.forIn_cons,List.forIn_nil];refine wpAny_bind (wpAny_bind (wpAny_onRaise ?_));show wpAny _ _ (Builtin.SmallTypes.nextOf (.ref i1) >>= _) _ _ _;refine wpAny_bind (N1.item (N1.at_ h1 fun o=>k₁ _ o D.i1z) (N1.sq hl1 fun o=>k₁ _ o D.l1z) hx fun h₂ t1 e₂=>wpAny_pure ?_);have k₂:∀ c o,c≠z->c≠i1->s.heap.get? c=some o->h₂.get? c=some o:=fun c o n n' q=>e₂.extBut _ _ n' (k₁ c o n q);have p₂:IsPair h₂ TO a b:=k₂ _ _ D.TOz D.TOi1 hTO;refine wpAny_bind (wpAny_seqItems p₂ rfl (wpAny_bind (wpAny_updateSeq_pair p₂ fun h₃ p₃ e₃=>?_)))
 replace p₃:IsPair h₃ TO x b:=p₃
 have k₃:∀ c o,c≠z->c≠i1->c≠TO->s.heap.get? c=some o->h₃.get? c=some o:=fun c o n n' n2 q=>e₃.extBut _ _ n2 (k₂ c o n n' q);refine wpAny_bind (wpAny_letGo (wpAny_pure ?_));refine wpAny_bind (wpAny_bind (wpAny_onRaise ?_));show wpAny _ _ (Builtin.SmallTypes.nextOf (.ref i2) >>= _) _ _ _;refine wpAny_bind (N2.item (N2.at_ h2 fun o=>k₃ _ o D.i2z D.i12.symm D.TOi2.symm) (N2.sq hl2 fun o=>k₃ _ o D.l2z D.l2i1 D.l2TO) hy fun h₄ t2 e₄=>wpAny_pure ?_);have p₄:IsPair h₄ TO x b:=e₄.extBut _ _ D.TOi2 p₃;refine wpAny_bind (wpAny_seqItems p₄ rfl (wpAny_bind (wpAny_updateSeq_pair p₄ fun h₅ p₅ e₅=>?_)))
 replace p₅:IsPair h₅ TO x y:=p₅
 refine wpAny_bind (wpAny_letGo (wpAny_pure (wpAny_pure ?_)));refine wpAny_bind (wpAny_seqItems p₅ rfl (wpAny_bind (wpAny_newTuple ?_)));have sz:h₅.objs.size=s.heap.objs.size:=by rw [e₅.1,e₄.1,e₃.1,e₂.1,e₁.1]
 have g₅:∀ c o,c≠i2->c≠TO->h₃.get? c=some o->h₅.get? c=some o:=fun c o n n' q=>e₅.extBut _ _ n' (e₄.extBut _ _ n q);have z₅:IsZip h₅ z TI TO .ellipsis:=g₅ _ _ D.i2z.symm D.TOz.symm (e₃.extBut _ _ D.TOz.symm (e₂.extBut _ _ D.i1z.symm hz₁));have k₅:∀ c o,c≠z->c≠TO->c≠i1->c≠i2->s.heap.get? c=some o->h₅.get? c=some o:=fun c o c1 c2 c3 c4 q=>g₅ c o c4 c2 (k₃ c o c1 c3 c2 q);have u1:S1 h₅ i1 l1 (k1+1):=N1.at_ t1 fun o q=>g₅ _ o D.i12 D.TOi1.symm (e₃.extBut _ _ D.TOi1.symm q);have u2:S2 h₅ i2 l2 (k2+1):=N2.at_ t2 fun o q=>e₅.extBut _ _ D.TOi2.symm q;have zl:z<h₅.objs.size:=Heap.lt_size z₅;show wpAny _ _ (Builtin.SmallTypes.ownedTupleHandOut (.ref z) (.ref h₅.objs.size) >>= _) _ _ _;unfold Builtin.SmallTypes.ownedTupleHandOut;have z₆:IsZip (h₅.push { cls:=.type "tuple",data:=.seq #[x,y] }) z TI TO .ellipsis:=Heap.get?_push_of_some _ z₅;refine wpAny_bind (wpAny_bind (wpAny_setField_rec z₆ (by simp) fun h₇ z₇ e₇=>?_))
 replace z₇:IsZip h₇ z TI TO (rawInt h₅.objs.size):=z₇
 refine wpAny_setField_rec z₇ (by simp) fun h₈ z₈ e₈=>?_
 replace z₈:IsZip h₈ z TI TO (rawInt h₅.objs.size):=z₈
 have up:∀ c o,c≠z->h₅.get? c=some o->h₈.get? c=some o:=fun c o c1 q=>e₈.extBut _ _ c1 (e₇.extBut _ _ c1 (Heap.get?_push_of_some _ q));have t₈:IsPair h₈ h₅.objs.size x y:=e₈.extBut _ _ (Nat.ne_of_gt zl) (e₇.extBut _ _ (Nat.ne_of_gt zl) (Heap.get?_push_size _ rfl));have s₈:h₈.objs.size=h₅.objs.size+1:=by rw [e₈.1,e₇.1,Heap.size_push]
 rw [sz] at z₈ t₈ s₈;refine wpAny_pure ⟨_,rfl,?_⟩;show Q (.ref h₅.objs.size) _;rw [sz];exact hQ h₈ z₈ (up _ _ D.TOz p₅) (N1.at_ u1 fun o q=>up _ o D.i1z q) (N2.at_ u2 fun o q=>up _ o D.i2z q) t₈ s₈ fun c o c1 c2 c3 c4 q=>up c o c1 (k₅ c o c1 c2 c3 c4 q)
theorem QZ1 {z TI TO i1 i2 l1 l2:Addr} {k1 k2:Nat} {xs ys:Array Value} {a b:Value} {Q:Fin->Shared->Prop} (N1:Nx prog w S1 Q1) (N2:Nx prog w S2 Q2) (hh:A.handled=none) (D:ZipApart z TI TO i1 i2 l1 l2)
   (hz:IsZip s.heap z TI TO .none) (hTI:IsPair s.heap TI (.ref i1) (.ref i2)) (hTO:IsPair s.heap TO a b)
   (h1:S1 s.heap i1 l1 k1) (h2:S2 s.heap i2 l2 k2) (hl1:Q1 s.heap l1 xs) (hl2:Q2 s.heap l2 ys) (hend:xs[k1]? = none\/ys[k2]? = none)
   (hE:∀ h' e,(∀ c o,c≠z->c≠TO->c≠i1->c≠i2->s.heap.get? c=some o->h'.get? c=some o)->(∃ o,h'.get? e=some o/\o.cls = .type "StopIteration")->E (.ref e) { s with heap:=h' }) :
   wpAny (model prog w) A (Builtin.«zip.__next__» ⟨[.ref z],[]⟩) Q E s:=by
 show wpAny _ _ (field (.ref z) 2 >>= _) _ _ _;refine wpAny_bind (wpAny_field hz rfl (x:=.bool false) rfl ?_);show wpAny _ _ (field (.ref z) 3 >>= _) _ _ _;refine wpAny_bind (wpAny_field hz rfl (x:=.ref TI) rfl (wpAny_bind (wpAny_seqItems hTI rfl ?_)));show wpAny _ _ (Builtin.SmallTypes.ownedTupleIsFree (.ref z) >>= _) _ _ _;unfold Builtin.SmallTypes.ownedTupleIsFree;refine wpAny_bind (wpAny_bind (wpAny_field hz rfl (x:=.none) rfl (wpAny_pure ?_)));simp only [if_true];refine wpAny_bind (wpAny_rule (wpAny_bind (wpAny_field hz rfl (x:=.ref TO) rfl (wpAny_bind (wpAny_setField_rec hz (by simp) fun h₁ hz₁ e₁=>?_)))))
 replace hz₁:IsZip h₁ z TI TO .ellipsis:=hz₁
 have k₁:∀ c o,c≠z->s.heap.get? c=some o->h₁.get? c=some o:=fun c o n q=>e₁.extBut _ _ n q;refine wpAny_bind ?_;simp only [List.zipIdx_cons,List.zipIdx_nil,List.forIn_cons,List.forIn_nil];refine wpAny_bind (wpAny_bind (wpAny_onRaise ?_));show wpAny _ _ (Builtin.SmallTypes.nextOf (.ref i1) >>= _) _ _ _;cases hx:xs[k1]? with
 | none =>
   refine wpAny_bind (N1.done hh (N1.at_ h1 fun o=>k₁ _ o D.i1z) (N1.sq hl1 fun o=>k₁ _ o D.l1z) hx fun h₂ e f₂ he=>?_);obtain ⟨oe,q,qc⟩:=he;have z₂:IsZip h₂ z TI TO .ellipsis:=f₂ _ _ D.i1z.symm hz₁;have ez:e≠z:=fun n=>by rw [n] at q; rw [z₂] at q; cases q; simp at qc
   exact wpAny_setField_rec z₂ (by simp) fun h₃ _ f₃=>hE h₃ e (fun c o c1 _ c3 _ n=>f₃.extBut _ _ c1 (f₂ _ _ c3 (k₁ c o c1 n))) ⟨oe,f₃.extBut _ _ ez q,qc⟩
 | some x =>
   have hy:ys[k2]? = none:=by rcases hend with h | h; rw [hx] at h; cases h; exact h
   refine wpAny_bind (N1.item (N1.at_ h1 fun o=>k₁ _ o D.i1z) (N1.sq hl1 fun o=>k₁ _ o D.l1z) hx fun h₂ t1 e₂=>wpAny_pure ?_);have k₂:∀ c o,c≠z->c≠i1->s.heap.get? c=some o->h₂.get? c=some o:=fun c o n n' q=>e₂.extBut _ _ n' (k₁ c o n q);have p₂:IsPair h₂ TO a b:=k₂ _ _ D.TOz D.TOi1 hTO;refine wpAny_bind (wpAny_seqItems p₂ rfl (wpAny_bind (wpAny_updateSeq_pair p₂ fun h₃ p₃ e₃=>?_)));have k₃:∀ c o,c≠z->c≠i1->c≠TO->s.heap.get? c=some o->h₃.get? c=some o:=fun c o n n' n2 q=>e₃.extBut _ _ n2 (k₂ c o n n' q);refine wpAny_bind (wpAny_letGo (wpAny_pure ?_));refine wpAny_bind (wpAny_bind (wpAny_onRaise ?_));show wpAny _ _ (Builtin.SmallTypes.nextOf (.ref i2) >>= _) _ _ _;refine wpAny_bind (N2.done hh (N2.at_ h2 fun o=>k₃ _ o D.i2z D.i12.symm D.TOi2.symm) (N2.sq hl2 fun o=>k₃ _ o D.l2z D.l2i1 D.l2TO) hy fun h₄ e f₄ he=>?_);obtain ⟨oe,q,qc⟩:=he;have z₄:IsZip h₄ z TI TO .ellipsis:=f₄ _ _ D.i2z.symm (e₃.extBut _ _ D.TOz.symm (e₂.extBut _ _ D.i1z.symm hz₁));have ez:e≠z:=fun n=>by rw [n] at q; rw [z₄] at q; cases q; simp at qc
   exact wpAny_setField_rec z₄ (by simp) fun h₅ _ f₅=>hE h₅ e (fun c o c1 c2 c3 c4 n=>f₅.extBut _ _ c1 (f₄ _ _ c4 (k₃ c o c1 c3 c2 n))) ⟨oe,f₅.extBut _ _ ez q,qc⟩
theorem QJ2 {z TI TO i1 i2 l1 l2:Addr} {k1 k2:Nat} {xs ys:Array Value} {x y a b:Value} {Q:Option Value->Shared->Prop} (N1:Nx prog w S1 Q1) (N2:Nx prog w S2 Q2) (D:ZipApart z TI TO i1 i2 l1 l2)
   (hz:IsZip s.heap z TI TO .none) (hTI:IsPair s.heap TI (.ref i1) (.ref i2)) (hTO:IsPair s.heap TO a b)
   (h1:S1 s.heap i1 l1 k1) (h2:S2 s.heap i2 l2 k2) (hl1:Q1 s.heap l1 xs) (hl2:Q2 s.heap l2 ys) (hx:xs[k1]? = some x) (hy:ys[k2]? = some y)
   (hQ:∀ h',IsZip h' z TI TO (rawInt s.heap.objs.size)->IsPair h' TO x y->S1 h' i1 l1 (k1+1)->S2 h' i2 l2 (k2+1)->IsPair h' s.heap.objs.size x y->h'.objs.size=s.heap.objs.size+1 ->
     (∀ c o,c≠z->c≠TO->c≠i1->c≠i2->s.heap.get? c=some o->h'.get? c=some o)->Q (some (.ref s.heap.objs.size)) { s with heap:=h' }) :
   wpAny (model prog w) A (pyNext (.ref z)) Q E s:=by
 have ty:s.TypeIs (.ref z) "zip" := ⟨_,hz,rfl⟩;unfold pyNext
 exact wpAny_bind (wpAny_attempt (wpAny_callSpecial?_slot (name:=Str.ofString "__next__") ty PySem.F.slot_zip_next
   (wpAny_call_entry PySem.F.slot_zip_next ty PySem.F.entry_zip_next (QO7 N1 N2 D hz hTI hTO h1 h2 hl1 hl2 hx hy fun h' a1 a2 a3 a4 a5 a6 a7=>wpAny_pure (hQ h' a1 a2 a3 a4 a5 a6 a7)) (PySem.F.args_zip_next_1 _))))
theorem QJ3 {z TI TO i1 i2 l1 l2:Addr} {k1 k2:Nat} {xs ys:Array Value} {a b:Value} {Q:Option Value->Shared->Prop} (N1:Nx prog w S1 Q1) (N2:Nx prog w S2 Q2) (hh:A.handled=none) (D:ZipApart z TI TO i1 i2 l1 l2)
   (hz:IsZip s.heap z TI TO .none) (hTI:IsPair s.heap TI (.ref i1) (.ref i2)) (hTO:IsPair s.heap TO a b)
   (h1:S1 s.heap i1 l1 k1) (h2:S2 s.heap i2 l2 k2) (hl1:Q1 s.heap l1 xs) (hl2:Q2 s.heap l2 ys) (hend:xs[k1]? = none\/ys[k2]? = none)
   (hQ:∀ h',(∀ c o,c≠z->c≠TO->c≠i1->c≠i2->s.heap.get? c=some o->h'.get? c=some o)->Q none { s with heap:=h' }):wpAny (model prog w) A (pyNext (.ref z)) Q E s:=by
 have ty:s.TypeIs (.ref z) "zip" := ⟨_,hz,rfl⟩;unfold pyNext
 refine wpAny_bind (wpAny_attempt (wpAny_callSpecial?_slot (name:=Str.ofString "__next__") ty PySem.F.slot_zip_next
   (wpAny_call_entry PySem.F.slot_zip_next ty PySem.F.entry_zip_next (QZ1 N1 N2 hh D hz hTI hTO h1 h2 hl1 hl2 hend fun h' e hk he=>?_) (PySem.F.args_zip_next_1 _))))
 obtain ⟨o,ho,hc⟩:=he;exact wpAny_bind (wpAny_isInstance (T := "StopIteration") (b:=true) ⟨o,ho,hc⟩ isSubtype_stop (wpAny_pure (hQ _ hk)))
abbrev zH1 (h:Heap) (l1:Addr):Heap:=h.push { cls:=.type "tuple_iterator",data:=.fields #[.ref l1,.int 0 0] }
abbrev zH2 (h:Heap) (l1 l2:Addr):Heap:=(zH1 h l1).push { cls:=.type "list_iterator",data:=.fields #[.ref l2,.int 0 0] }
abbrev zH3 (h:Heap) (l1 l2:Addr):Heap:=(zH2 h l1 l2).push { cls:=.type "tuple",data:=.seq #[.ref h.objs.size,.ref (zH1 h l1).objs.size] }
abbrev zH4 (h:Heap) (l1 l2:Addr):Heap:=(zH3 h l1 l2).push { cls:=.type "tuple",data:=.seq #[.none,.none] }
abbrev zH5 (h:Heap) (l1 l2:Addr):Heap:=(zH4 h l1 l2).push { cls:=.type "zip",data:=.fields #[.none,.bool false,.bool false,.ref (zH2 h l1 l2).objs.size,.ref (zH3 h l1 l2).objs.size] }
theorem QB2 (l1 l2:Addr) (xs ys:Array Value) :
   Meets (Builtin.«zip.__new__» ⟨[.type "zip",.ref l1,.ref l2],[]⟩) (fun _ R s=>s.heap.IsTuple l1 xs/\s.heap.IsList l2 ys /\
     R (.ok (.ret (.ref (zH4 s.heap l1 l2).objs.size))) { s with heap:=zH5 s.heap l1 l2 }) :=
 .of_wp fun prog w A R s h=>by
   obtain ⟨hp,g,d,tk,os⟩:=s; obtain ⟨hl1,hl2,h⟩:=h;have hsub:=sub_zip;have a1:Heap.IsTuple (Shared.heap ⟨hp,g,d,tk,os⟩) l1 xs:=hl1;have a2:Heap.IsList (Shared.heap ⟨hp.push { cls:=.type "tuple_iterator",data:=.fields #[.ref l1,.int 0 0] },g,d,tk,os⟩) l2 ys:=Heap.IsList.push hl2 _
   wp_walk using wpAny_pyIter_tuple a1,wpAny_pyIter_list a2
   exact ⟨_,rfl,h⟩
theorem QJ4 {l1 l2:Addr} {xs ys:Array Value} {Q:Value->Shared->Prop} (hl1:s.heap.IsTuple l1 xs) (hl2:s.heap.IsList l2 ys)
   (h : ∀ h',IsZip h' (s.heap.objs.size+4) (s.heap.objs.size+2) (s.heap.objs.size+3) .none->IsPair h' (s.heap.objs.size+2) (.ref s.heap.objs.size) (.ref (s.heap.objs.size+1)) ->
     IsPair h' (s.heap.objs.size+3) .none .none->h'.IsTupleIter s.heap.objs.size l1 0->h'.IsListIter (s.heap.objs.size+1) l2 0->h'.objs.size=s.heap.objs.size+5 ->
     (∀ c o,s.heap.get? c=some o->h'.get? c=some o)->Q (.ref (s.heap.objs.size+4)) { s with heap:=h' }) :
   wpAny (model prog w) A (call (.type "zip") [.ref l1,.ref l2]) Q E s:=by
 refine callType_new PySem.F.called_zip (by decide) (PySem.F.typeCall_zip_2 _ _) (PySem.F.newCall_zip_2 _ _) (fun obj=>PySem.F.args_object_init_3 obj _ _) PySem.F.entry_zip_new (QB2 l1 l2 xs ys) ⟨hl1,hl2,?_⟩;have z1:(zH1 s.heap l1).objs.size=s.heap.objs.size+1:=Heap.size_push ..;have z2:(zH2 s.heap l1 l2).objs.size=s.heap.objs.size+2:=by rw [Heap.size_push,z1]
 have z3:(zH3 s.heap l1 l2).objs.size=s.heap.objs.size+3:=by rw [Heap.size_push,z2]
 have z4:(zH4 s.heap l1 l2).objs.size=s.heap.objs.size+4:=by rw [Heap.size_push,z3]
 have z5:(zH5 s.heap l1 l2).objs.size=s.heap.objs.size+5:=by rw [Heap.size_push,z4]
 have up:∀ {h:Heap} {a:Addr} {o u:Obj},h.get? a=some o->(h.push u).get? a=some o:=fun q=>Heap.get?_push_of_some _ q;have g5:(zH5 s.heap l1 l2).get? (zH4 s.heap l1 l2).objs.size=some _:=Heap.get?_push_size _ rfl;have g4:(zH5 s.heap l1 l2).get? (zH3 s.heap l1 l2).objs.size=some _:=up (Heap.get?_push_size _ rfl);have g3:(zH5 s.heap l1 l2).get? (zH2 s.heap l1 l2).objs.size=some _:=up (up (Heap.get?_push_size _ rfl));have g2:(zH5 s.heap l1 l2).get? (zH1 s.heap l1).objs.size=some _:=up (up (up (Heap.get?_push_size _ rfl)));have g1:(zH5 s.heap l1 l2).get? s.heap.objs.size=some _:=up (up (up (up (Heap.get?_push_size _ rfl))));show _/\_;rw [z2,z3,z4] at g5;rw [z1,z2] at g3;rw [z3] at g4;rw [z1] at g2;rw [z4];exact ⟨⟨_,g5,rfl⟩,h _ g5 g3 g4 ⟨_,g1,rfl,rfl⟩ ⟨_,g2,rfl,rfl⟩ z5 fun c o q=>up (up (up (up (up q))))⟩
end
def ItzM (K:UZ9) (a b:Addr):It :=
 ⟨fun i H=>∃ (xs ys:List V) (x y:V),SqT K H a xs/\SqL K H b ys/\xs[i]? = some x/\ys[i]? = some y,
   fun i H v H'=>∃ T x y,v = .ref T/\H T=none/\H'=upd H T (.tup [x,y])/\(∀ xs,SqT K H a xs->xs[i]? = some x) /\ ∀ ys,SqL K H b ys->ys[i]? = some y,
   fun i H=>∃ xs ys:List V,SqT K H a xs/\SqL K H b ys/\(xs.length<=i\/ys.length<=i)⟩
theorem QJ5 {P:Program} {w:World} {K:UZ9} {elts:List Expr} {kk:Nat} {tpos:Pos} {a b z TI TO i1 i2:Addr} (D:ZipApart z TI TO i1 i2 a b) :
   Turn P w K (.Tuple elts kk tpos) (ItzM K a b) [z,TI,TO,i1,i2] z (fun i h=>IsZip h z TI TO .none/\IsPair h TI (.ref i1) (.ref i2)/\(∃ x y,IsPair h TO x y)/\h.IsTupleIter i1 a i/\h.IsListIter i2 b i) where
 mem:=by simp
 obj:=fun i h st c hc=>by
   obtain ⟨hz,hTI,⟨x,y,hTO⟩,h1,h2⟩:=st;have e':c=z\/c=TI\/c=TO\/c=i1\/c=i2:=by simpa using hc
   rcases e' with rfl | rfl | rfl | rfl | rfl
   . exact ⟨_,hz,fun v q=>nomatch q⟩
   . exact ⟨_,hTI,fun v q=>nomatch q⟩
   . exact ⟨_,hTO,fun v q=>nomatch q⟩
   . exact (nxT (prog:=P) (w:=w)).obj h1
   . exact (nxL (prog:=P) (w:=w)).obj h2
 keep:=fun i h h' st k=>by
   obtain ⟨hz,hTI,⟨x,y,hTO⟩,h1,h2⟩:=st;exact ⟨k z (by simp) _ hz,k TI (by simp) _ hTI,⟨x,y,k TO (by simp) _ hTO⟩,h1.at fun o q=>k i1 (by simp) o q,h2.at fun o q=>k i2 (by simp) o q⟩
 item := by
   intro X hP hw hK hc i pins s σ H E I hf st hg;subst hP hw hK;obtain ⟨hz,hTI,⟨x0,y0,hTO⟩,h1,h2⟩:=st;obtain ⟨xs,ys,x,y,hqx,hqy,hx,hy⟩:=hg;obtain ⟨its,rv,p,_⟩:=I.tuple hqx;obtain ⟨its2,rv2,p2,_⟩:=I.list hqy;obtain ⟨u,hu,ru⟩:=rv.get hx;obtain ⟨u2,hu2,ru2⟩:=rv2.get hy;have zl:z<s.heap.objs.size:=Heap.lt_size hz;refine QJ2 nxT nxL D hz hTI hTO h1 h2 (show s.heap.IsTuple a its.toArray from p) p2.isList (x:=u) (y:=u2) (by simpa using hu) (by simpa using hu2) fun h' z' TO' h1' h2' hT hsz hk=>?_;refine ⟨_,rfl,wpAny_letOwnedTupleGo_zip (s:={ s with heap:=h' }) z' fun h'' z'' sb=>?_⟩;have hT2:h''.get? s.heap.objs.size=some { cls:=.type "tuple",data:=.seq #[u,u2] }:=(sb.2 _ (Nat.ne_of_gt zl)).trans hT
   have new:ObjOk X.prog X.w (upd H s.heap.objs.size (.tup [x,y])) h'' s.heap.objs.size (.tup [x,y]) :=
     ⟨by show 2<=sizeLine; decide,[u,u2],.cons ru (.cons ru2 .nil),⟨_,hT2,rfl,_,rfl⟩⟩
   have out:∀ {c:Addr},c∉[z,TI,TO,i1,i2]->c≠z/\c≠TO/\c≠i1/\c≠i2:=fun {c} hb=>⟨fun q=>hb (by simp [q]),fun q=>hb (by simp [q]),fun q=>hb (by simp [q]),fun q=>hb (by simp [q])⟩
   have I1:Inv X pins σ (upd H s.heap.objs.size (.tup [x,y])) { s with heap:=h'' } :=
     I.turnedNew (t':=s.toks) (ch:=[z,TI,TO,i1,i2]) (fun c o hb q=>let ⟨c1,c2,c3,c4⟩:=out hb; (sb.2 c c1).trans (hk c o c1 c2 c3 c4 q)) hf (Nat.le_refl _) new
   refine ⟨.ref s.heap.objs.size,_,I1,rfl,⟨_,x,y,rfl,I.hok.fresh (Nat.le_refl _),rfl,fun l hl=>by rw [I.tuple_inj hl hqx]; exact hx,fun l hl=>by rw [I.list_inj hl hqy]; exact hy⟩,⟨z'',?_,⟨u,u2,?_⟩,?_,?_⟩,fun c hcm=>?_⟩
   . exact (sb.2 _ D.TIz).trans (hk _ _ D.TIz D.TITO D.TIi1 D.TIi2 hTI)
   . exact (sb.2 _ D.TOz).trans TO'
   . exact h1'.at fun o q=>(sb.2 _ D.i1z).trans q
   . exact h2'.at fun o q=>(sb.2 _ D.i2z).trans q
   . have hlt:c<s.heap.objs.size:=by
       have e':c=z\/c=TI\/c=TO\/c=i1\/c=i2:=by simpa using hcm
       rcases e' with rfl | rfl | rfl | rfl | rfl
       . exact zl
       . exact Heap.lt_size hTI
       . exact Heap.lt_size hTO
       . obtain ⟨_,e1,_⟩:=h1; exact Heap.lt_size e1
       . obtain ⟨_,e2,_⟩:=h2; exact Heap.lt_size e2
     rw [upd_ne (Nat.ne_of_lt hlt)];exact (hf c hcm).1
 done := by
   intro X hP hw hK hc i pins s σ H E I hf st hg;subst hP hw hK;obtain ⟨hz,hTI,⟨x0,y0,hTO⟩,h1,h2⟩:=st;obtain ⟨xs,ys,hqx,hqy,hend⟩:=hg;obtain ⟨its,rv,p,_⟩:=I.tuple hqx;obtain ⟨its2,rv2,p2,_⟩:=I.list hqy;have l1:=rv.length;have l2:=rv2.length
   have he:its.toArray[i]? = none\/its2.toArray[i]? = none:=by
     rcases hend with q | q
     . exact .inl (by simp; omega)
     . exact .inr (by simp; omega)
   exact QJ3 nxT nxL (I.ok.hd hc) D hz hTI hTO h1 h2 (show s.heap.IsTuple a its.toArray from p) p2.isList he fun h' hk=>⟨rfl,I.turnedL (t':=s.toks) (ch:=[z,TI,TO,i1,i2]) (fun c o hb q =>
     hk c o (fun q'=>hb (by simp [q'])) (fun q'=>hb (by simp [q'])) (fun q'=>hb (by simp [q'])) (fun q'=>hb (by simp [q'])) q) hf⟩
 self:=fun A i s Q E st h=>wpAny_pyIter_zip st.1 h
def iZipM (K:UZ9) (ta:TA):TI:=fun σ H R=>ta σ H fun vs H1=>∃ a b xs ys,vs=[.ref a,.ref b]/\SqT K H1 a xs/\((SqL K H1 b ys/\R (ItzM K a b) H1)\/(SqT K H1 b ys/\R (RZ.ItzT K a b) H1))
theorem QZ2 {X:Cx} {e e2:Expr} {ta:TA} {p pos tpos:Pos} {elts:List Expr} {kk:Nat} (hg:Gl X "zip") (hm:X.mg "zip" = none) (ha:PA X [e,e2] ta)
   (hs:starEach [e,e2] X.env=(false,eval e X.env)::starEach [e2] X.env:=by rfl) (hpl:(backTo pos (starEach [e2] X.env)).any (·.1)=false:=by rfl) :
   PI X (.Tuple elts kk tpos) (.Call (.Name "zip" p) [e,e2] [] pos) (iZipM X.K ta):=by
 refine ⟨fun pins s σ H R I h=>?_⟩;refine Call_ (ld_blt I hg hm PyProof.Rows.boot_zip (PyProof.Rows.callWith_type1 (thn (ha.run pos pins s σ H _ I h) fun us s1 ⟨vs,H1,I1,r1,q1⟩=>?_) hs hpl));obtain ⟨a,b,xs,ys,rfl,hqx,q1⟩:=q1
 obtain ⟨u1,u2,rfl,r,r'⟩:∃ u1 u2,us=[u1,u2]/\RelV (.ref a) u1/\RelV (.ref b) u2:=by
   cases r1 with
   | cons r rr=>cases rr with
     | cons r' rr=>cases rr; exact ⟨_,_,rfl,r,r'⟩
 cases r;cases r'
 have young:∀ c,c∈[s1.heap.objs.size+4,s1.heap.objs.size+2,s1.heap.objs.size+3,s1.heap.objs.size,s1.heap.objs.size+1]->FpOk X pins H1 c:=fun c hcm=>by
   have hle:s1.heap.objs.size<=c:=by
     simp only [List.mem_cons,List.not_mem_nil,or_false] at hcm;rcases hcm with z | z | z | z | z <;> omega
   exact I1.fpOk hle (I1.hok.fresh hle)
 obtain ⟨its,rv,p1,_⟩:=I1.tuple hqx;have la:a<s1.heap.objs.size:=by obtain ⟨o1,ho1,_⟩:=id p1; exact Heap.lt_size ho1
 rcases q1 with ⟨hqy,q⟩ | ⟨hqy,q⟩
 . obtain ⟨its2,rv2,p2,_⟩:=I1.list hqy;refine QJ4 (show s1.heap.IsTuple a its.toArray from p1) p2.isList fun h' hz hTI hTO h1 h2 hsz hk=>wpAny_pyIter_zip hz ?_;have I2:Inv X pins σ H1 { s1 with heap:=h' }:=I1.kept (t':=s1.toks) hk;exact ⟨s1.heap.objs.size+4,[s1.heap.objs.size+4,s1.heap.objs.size+2,s1.heap.objs.size+3,s1.heap.objs.size,s1.heap.objs.size+1],_,_,H1,rfl,I2,QJ5 (PySem.W.ktu_apart s1.heap.objs.size a b la p2.lt),⟨hz,hTI,⟨_,_,hTO⟩,h1,h2⟩,young,q⟩
 . obtain ⟨its2,rv2,p2,_⟩:=I1.tuple hqy;have lb:b<s1.heap.objs.size:=by obtain ⟨o1,ho1,_⟩:=id p2; exact Heap.lt_size ho1
   refine RZ.call_zipT (show s1.heap.IsTuple a its.toArray from p1) (show s1.heap.IsTuple b its2.toArray from p2) fun h' hz hTI hTO h1 h2 hsz hk=>wpAny_pyIter_zip hz ?_;have I2:Inv X pins σ H1 { s1 with heap:=h' }:=I1.kept (t':=s1.toks) hk;exact ⟨s1.heap.objs.size+4,[s1.heap.objs.size+4,s1.heap.objs.size+2,s1.heap.objs.size+3,s1.heap.objs.size,s1.heap.objs.size+1],_,_,H1,rfl,I2,RZ.turn_zipT (PySem.W.ktu_apart s1.heap.objs.size a b la lb),⟨hz,hTI,⟨_,_,hTO⟩,h1,h2⟩,young,q⟩
def Qf4:List D->List D->List Z
 | x::xs,y::ys=>.d (.tup [x,y])::Qf4 xs ys
 | _,_=>[]
theorem Qy3:∀ {xs ys:List D} {i:Nat} {z:Z},(Qf4 xs ys)[i]? = some z -> ∃ x y,xs[i]? = some x/\ys[i]? = some y/\z = .d (.tup [x,y])
 | [],ys,i,z,h=>by simp [Qf4] at h
 | _::_,[],i,z,h=>by simp [Qf4] at h
 | x::xs,y::ys,0,z,h=>by
   simp only [Qf4,List.getElem?_cons_zero,Option.some.injEq] at h;exact ⟨x,y,rfl,rfl,h.symm⟩
 | x::xs,y::ys,i+1,z,h=>by
   simp only [Qf4,List.getElem?_cons_succ] at h;obtain ⟨x',y',h1,h2,h3⟩:=Qy3 h;exact ⟨x',y',by simpa using h1,by simpa using h2,h3⟩
theorem Qg8:∀ {xs ys:List D},(Qf4 xs ys).length=min xs.length ys.length
 | [],ys=>by simp [Qf4]
 | _::_,[]=>by simp [Qf4]
 | _::xs,_::ys=>by simp [Qf4,Qg8 (xs:=xs) (ys:=ys)]
def Xc1:Z->Option (List D)
 | .d (.tup xs)=>some xs
 | .d (.tupN xs)=>some xs
 | _=>none
def QB3 (x y:Z) (h:ZH):Option ZIt:=match Xc1 x with
 | none=>none
 | some xs=>match Xc1 y with
   | some ys=>some ⟨Qf4 xs ys,none⟩
   | none=>match y with
     | .d (.lst ys)=>some ⟨Qf4 xs ys,none⟩
     | .r i=>match h[i]? with
       | some (.dl ys)=>some ⟨Qf4 xs ys,some (i,.dl ys)⟩
       | _=>none
     | _=>none
def zip2 (zs:List Z) (h:ZH):Out ZIt:=match zs with
 | [x,y]=>match QB3 x y h with
   | some it=>.ok it h
   | none=>.bad
 | _=>.bad
def iZip (d:DA):DI:=fun s h=>(d s h).bnd zip2
section
variable {g:G} {F:Fr} {X:Cx} {W:WX} {e e2:Expr} {d:DA} {pos:Pos} {kk:Nat}
theorem QJ6 {U:Addr->Prop} {H:Hp} {ρ:List Addr} {z:Z} {v:V} {xs:List D} (h:Xc1 z=some xs) (r:RZ g U H ρ z v):RD g U H (.tup xs) v:=by
 unfold Xc1 at h
 split at h
 . cases h; exact r
 . cases h; exact QC6 r
 . cases h
theorem Qj0 {ρ3:List Addr} {zh3:ZH} {H3:Hp} {F2:Fr} {vs us:List V} {xs ys:List D} (R3:RelH g F2 ρ3 zh3 H3) (rx:RDs g (UO F2 ρ3 zh3) H3 xs vs) (ry:RDs g (UO F2 ρ3 zh3) H3 ys us) {j:Nat} {z:Z} (hz:(Qf4 xs ys)[j]? = some z) :
   ∃ v u,vs[j]? = some v/\us[j]? = some u /\ ∀ T,H3 T=none->Ext F2 ρ3 zh3 H3 ρ3 zh3 (upd H3 T (.tup [v,u]))/\RelH g F2 ρ3 zh3 (upd H3 T (.tup [v,u]))/\RZ g (UO F2 ρ3 zh3) (upd H3 T (.tup [v,u])) ρ3 z (.ref T):=by
 obtain ⟨x,y,hx,hy,rfl⟩:=Qy3 hz;obtain ⟨v,h1,r1⟩:=RDs.get rx hx;obtain ⟨u,h2,r2⟩:=RDs.get ry hy;refine ⟨v,u,h1,h2,fun T n=>?_⟩;obtain ⟨R4,E4,nu⟩:=R3.newF (o:=.tup [v,u]) n;exact ⟨E4,R4,rd_tup.mpr ⟨_,_,rfl,nu,.inl upd_same,rds_cons.mpr ⟨_,_,rfl,RD.mono E4.stb _ _ r1,rds_cons.mpr ⟨_,_,rfl,RD.mono E4.stb _ _ r2,rds_nil.mpr rfl⟩⟩⟩⟩
theorem zi_zip {p tpos:Pos} {elts:List Expr} (hK:X.K=g.K) (hg:Gl X "zip") (hm:X.mg "zip" = none) (ha:ZA g F X W [e,e2] d)
   (hs:starEach [e,e2] X.env=(false,eval e X.env)::starEach [e2] X.env:=by rfl) (hpl:(backTo pos (starEach [e2] X.env)).any (·.1)=false:=by rfl) :
   ZI g F X W (.Tuple elts kk tpos) (.Call (.Name "zip" p) [e,e2] [] pos) (iZip d):=by
 refine PI.imp (QZ2 hg hm ha hs hpl) fun σ H R ⟨ρ,zσ,zh,RH,RS,p⟩=>?_;refine ⟨ρ,zσ,zh,RH,RS,PostA.bndI p fun ρ1 zs zh1 vs H1 e1 R1 rzs p1=>?_⟩;rw [hK];unfold zip2 at p1
 split at p1
 . rename_i x y;obtain ⟨v,vs',rfl,rx,rzs⟩:=rzs;obtain ⟨u,vs',rfl,ry,rzs⟩:=rzs;obtain rfl:vs'=[]:=rzs;unfold QB3 at p1;cases kx:Xc1 x with
   | none=>simp only [kx] at p1; exact p1.elim
   | some xs =>
     simp only [kx] at p1;obtain ⟨a,ws,rfl,nu,qa,ra⟩:=rd_tup.mp (QJ6 kx rx);have lx:=ra.length;cases ky:Xc1 y with
     | some ys =>
       simp only [ky] at p1;obtain ⟨b,us,rfl,nub,qb,rb⟩:=rd_tup.mp (QJ6 ky ry);have ly:=rb.length;refine ⟨a,b,ws,us,rfl,.inl qa,.inr ⟨.inl qb,p1 ρ1 _ H1 Ext.refl R1 trivial ?_⟩⟩;intro F2 ρ3 zh3 H3 pre stb R3 _;have qa3:SqT g.K H3 a ws:=.inl (Rd.stb stb nu qa).1;have qb3:SqT g.K H3 b us:=.inl (Rd.stb stb nub qb).1;refine ⟨fun j z hz=>?_,ws,us,qa3,qb3,?_⟩
       . obtain ⟨v,u,h1,h2,k⟩:=Qj0 R3 (RDs.mono stb _ _ ra) (RDs.mono stb _ _ rb) hz;refine ⟨⟨ws,us,v,u,qa3,qb3,h1,h2⟩,fun w H4 ⟨T,v',u',e4,n4,e5,f1,f2⟩=>?_⟩;subst e4; subst e5;have:=f1 ws qa3; rw [h1] at this; cases this;have:=f2 us qb3; rw [h2] at this; cases this;exact k T n4
       . show ws.length<=(Qf4 xs ys).length\/us.length<=(Qf4 xs ys).length;rw [Qg8];omega
     | none =>
       simp only [ky] at p1;cases y with
       | d dd =>
         cases dd with
         | lst ys =>
           dsimp only at p1;obtain ⟨b,us,rfl,nub,qb,rb⟩:=rd_lst.mp ry;have ly:=rb.length;refine ⟨a,b,ws,us,rfl,.inl qa,.inl ⟨SqL.of qb,p1 ρ1 _ H1 Ext.refl R1 trivial ?_⟩⟩;intro F2 ρ3 zh3 H3 pre stb R3 _;have qa3:SqT g.K H3 a ws:=.inl (Rd.stb stb nu qa).1;have qb3:SqL g.K H3 b us:=SqL.of (stb b _ qb nub).1;refine ⟨fun j z hz=>?_,ws,us,qa3,qb3,?_⟩
           . obtain ⟨v,u,h1,h2,k⟩:=Qj0 R3 (RDs.mono stb _ _ ra) (RDs.mono stb _ _ rb) hz;refine ⟨⟨ws,us,v,u,qa3,qb3,h1,h2⟩,fun w H4 ⟨T,v',u',e4,n4,e5,f1,f2⟩=>?_⟩;subst e4; subst e5;have:=f1 ws qa3; rw [h1] at this; cases this;have:=f2 us qb3; rw [h2] at this; cases this;exact k T n4
           . show ws.length<=(Qf4 xs ys).length\/us.length<=(Qf4 xs ys).length;rw [Qg8];omega
         | _=>exact p1.elim
       | e x=>exact p1.elim
       | r i =>
         dsimp only at p1;obtain ⟨b,h1,rfl⟩:=ry;cases hz:zh1[i]? with
         | none=>simp only [hz] at p1; exact p1.elim
         | some o =>
           cases o with
           | dl ys =>
             simp only [hz] at p1;obtain ⟨us,qb,rb⟩:=R1.own i b _ h1 hz;have ly:=rb.length;refine ⟨a,b,ws,us,rfl,.inl qa,.inl ⟨SqL.of qb,p1 ρ1 _ H1 Ext.refl R1 hz ?_⟩⟩;intro F2 ρ3 zh3 H3 pre stb R3 gd;obtain ⟨us3,qb3,rb3⟩:=R3.own i b _ (M3 pre h1) gd;have ly3:=rb3.length;have qa3:SqT g.K H3 a ws:=.inl (Rd.stb stb nu qa).1;refine ⟨fun j z hz=>?_,ws,us3,qa3,SqL.of qb3,?_⟩
             . obtain ⟨v,u,h1,h2,k⟩:=Qj0 R3 (RDs.mono stb _ _ ra) rb3 hz;refine ⟨⟨ws,us3,v,u,qa3,SqL.of qb3,h1,h2⟩,fun w H4 ⟨T,v',u',e4,n4,e5,f1,f2⟩=>?_⟩;subst e4; subst e5;have:=f1 ws qa3; rw [h1] at this; cases this;have:=f2 us3 (SqL.of qb3); rw [h2] at this; cases this;exact k T n4
             . show ws.length<=(Qf4 xs ys).length\/us3.length<=(Qf4 xs ys).length;rw [Qg8];omega
           | _=>simp only [hz] at p1; exact p1.elim
 . exact p1.elim
end
section
variable {QZ:Z->ZH->Prop} {E:ZX->ZH->Prop} {s:ZS} {h:ZH} {d:DA}
theorem wp_izip {Q:ZIt->ZH->Prop}:(iZip d s h).wp Q E=(d s h).wp (fun zs h1=>S9 (match zs with | [x,y]=>QB3 x y h1 | _=>none) fun it=>Q it h1) E:=by
 unfold iZip;rw [wp_bnd];refine Y5 fun zs h1=>?_;unfold zip2
 split
 . rename_i x y;cases QB3 x y h1 with
   | none=>rw [optP_none]; dsimp only; rw [wp_bad]
   | some it=>rw [optP_some]; dsimp only; rw [wp_ok]
 . rw [optP_none,wp_bad]
theorem zipIt_tt {xs ys:List D}:QB3 (.d (.tup xs)) (.d (.tup ys)) h=some ⟨Qf4 xs ys,none⟩:=id rfl
theorem zipIt_tl {xs ys:List D}:QB3 (.d (.tup xs)) (.d (.lst ys)) h=some ⟨Qf4 xs ys,none⟩:=id rfl
end
section
variable {g:G} {F:Fr} {X:Cx} {W:WX} {k:Nat} {f:Addr} {fd:FuncData} {ps:List Str} {M:Sem} {o a b value:Expr} {da db dv:DE} {pos pos' apos:Pos}
theorem QS6 {A1:Around} (T:FnT X.prog X.w X.K X.mg X.base g k f fd ps M) (hr:Room k A1) (hf:A1.frames=X.A.frames) (tk:Takes X W) {pins:List (Addr × Obj)} {s:Shared} {σ:L2.St} {H:Hp} {Q:VK} {us:List Value} {vs:List V}
   (I:L2.Inv X pins σ H s) (r:Vals vs us) (h:lowF g M vs H Q (fun c d H'=>W c d σ H')) :
   codeAny (model X.prog X.w) A1 (.call (.ref f) ⟨us,[]⟩) (fun r s'=>match r with | .ok (.ret u)=>EP X pins σ Q u s' | .ok _=>False | .error e=>X.xe e s') s:=by
 have hl:us.length=ps.length:=by rw [<- r.length]; exact T.ok.len _ _ _ _ h
 have hb:=T.bi s us I.kIn (by rw [List.append_nil]; exact hl);rw [List.append_nil] at hb
 have e0:Env0 X.prog X.w X.K X.mg X.base A1 X.stack s H:=by
   have e:=I.env0;exact ⟨by rw [hf]; exact e.frames,e.mod,e.bs,e.bsz,e.funs,e.frf,e.hok,e.bare⟩
 refine codeAny_mono (T.ok.run A1 X.stack s H ⟨us,[]⟩ us vs Q _ hr e0 hb r h) fun r s' hq=>?_;cases r with
 | error e=>exact Qg5 tk σ pins H s e s' I hq
 | ok fl =>
   cases fl with
   | ret u=>exact I.after hq
   | next=>exact hq
   | brk=>exact hq
   | cont=>exact hq
theorem QZ3 {A1:Around} (T:FnT X.prog X.w X.K X.mg X.base g k f fd ps M) (hr:Room k A1) (hf:A1.frames=X.A.frames) (tk:Takes X W) {pins:List (Addr × Obj)} {s:Shared} {σ:L2.St} {H:Hp} {Q:VK} {us:List Value} {vs:List V}
   (I:L2.Inv X pins σ H s) (r:Vals vs us) (h:lowF g M vs H Q (fun c d H'=>W c d σ H')):wpAny (model X.prog X.w) A1 (call (.ref f) us) (EP X pins σ Q) X.xe s:=by
 refine wpAny_call (codeAny_mono (QS6 T hr hf tk I r h) fun r s' hq=>?_);cases r with
 | error e=>exact hq
 | ok fl =>
   cases fl with
   | ret u=>exact hq
   | next=>exact False.elim hq
   | brk=>exact False.elim hq
   | cont=>exact False.elim hq
def lowK (g:G) (F:Fr) (W:WX) (k:Z->ZH->Out Z) (ρ:List Addr) (zσ:ZS) (zh:ZH) (σ:L2.St) (H:Hp) (Q:VK) (v:V) (H1:Hp):Prop :=
 ∃ ρ1 z zh1,Ext F ρ zh H ρ1 zh1 H1/\RelH g F ρ1 zh1 H1/\RZ g (UO F ρ1 zh1) H1 ρ1 z v/\Post g F W ρ1 zσ zh1 σ H1 (k z zh1) Q
def OpE (P:Program) (w:World) (K:UZ9) (mg:Str->Option Value) (base:Heap) (g:G) (k:Nat) (m:Str) (mt:Nat->Option Sem):Prop :=
 ∀ c M,g.has c=true->mt c=some M -> ∃ f fd ps,Meth K (g.cad c) m f/\FnT P w K mg base g k f fd ps M/\PySem.W.fnIn K f=true/\PySem.W.noSeq K (g.cad c)=true
theorem OpE.mono {P:Program} {w:World} {K:UZ9} {mg:Str->Option Value} {base:Heap} {g:G} {k k':Nat} {m:Str} {mt:Nat->Option Sem} (h:OpE P w K mg base g k m mt) (l:k<=k'):OpE P w K mg base g k' m mt:=fun c M h1 h2 =>
 let ⟨f,fd,ps,a,b,d⟩:=h c M h1 h2; ⟨f,fd,ps,a,b.mono l,d⟩
def Xc2 (mt:Nat->Option Sem) (v x y:Z) (s:ZS) (h:ZH):OutS:=match (Qa4 x h).bind mt with
 | some M=>(J8 M [x,y,v] h).bndS s fun _ h1=>.nx s h1
 | none=>.bad
def QB4 (mt:Nat->Option Sem) (da db:DE):DG:=fun v s h=>(da s h).bndS s fun x h1=>(db s h1).bndS s fun y h2=>Xc2 mt v x y s h2
theorem Qy4 {mt:Nat->Option Sem} {da db:DE}:GOk (QB4 mt da db):=fun v s h=>Qi6 fun x h1=>Qi6 fun y h2=>by
 unfold Xc2
 split
 . exact Qi6 fun _ _=>⟨(fun _ _ q=>nomatch q),(fun _ _ q=>nomatch q),(fun _ _ q=>nomatch q)⟩
 . exact ⟨(fun _ _ q=>nomatch q),(fun _ _ q=>nomatch q),(fun _ _ q=>nomatch q)⟩
def PropE (P:Program) (w:World) (K:UZ9) (mg:Str->Option Value) (base:Heap) (g:G) (k:Nat) (m:Str) (mt:Nat->Option Sem):Prop :=
 ∀ c M,g.has c=true->mt c=some M -> ∃ p f fd ps,PropOf K (g.cad c) m p f/\FnT P w K mg base g k f fd ps M
theorem PropE.mono {P:Program} {w:World} {K:UZ9} {mg:Str->Option Value} {base:Heap} {g:G} {k k':Nat} {m:Str} {mt:Nat->Option Sem} (h:PropE P w K mg base g k m mt) (l:k<=k'):PropE P w K mg base g k' m mt:=fun c M h1 h2 =>
 let ⟨p,f,fd,ps,a,b⟩:=h c M h1 h2; ⟨p,f,fd,ps,a,b.mono l⟩
def okE:Out Z->Out Z
 | .ok z h=>.ok z h
 | _=>.bad
def Qy5 (mt:Nat->Option Sem) (x:Z) (h:ZH):Out Z:=match (Qa4 x h).bind mt with
 | some M=>okE (J8 M [x] h)
 | none=>.bad
def Qs1 (mt:Nat->Option Sem) (da:DE):DE:=fun s h=>(da s h).bnd fun x h1=>Qy5 mt x h1
theorem QO8 {ρ:List Addr} {zσ:ZS} {zh:ZH} {σ:L2.St} {H:Hp} {o:Out Z} {Q:VK} (p:Post g F W ρ zσ zh σ H (okE o) Q):Post g F (fun _ _ _ _=>False) ρ zσ zh σ H o Q:=by
 cases o with
 | ok z h=>exact p
 | exc x h=>exact p.elim
 | bad=>exact p
theorem QJ7 {m:Str} {mt:Nat->Option Sem} (gk:ClsOk g) (hK:X.K=g.K) (T:PropE X.prog X.w X.K X.mg X.base g k m mt) (hr:Room (k+1) X.A) (ha:ZE g F X W o da) (hab:attributeBase o m X.env (eval o X.env)=eval o X.env:=by rfl):ZE g F X W (.Attribute o m pos) (Qs1 mt da):=by
 refine ⟨fun pins s σ H Q I ⟨ρ,zσ,zh,RH,RS,p⟩=>?_⟩;refine attr_of hab (thn (ha.run pins s σ H (fun v H1=>lowK g F W (Qy5 mt) ρ zσ zh σ H Q v H1) I ⟨ρ,zσ,zh,RH,RS,Post.bnd p fun ρ1 z zh1 v H1 e1 R1 rz p1=>⟨ρ1,z,zh1,e1,R1,rz,p1⟩⟩) fun u s1 ⟨x,H1,I1,rx,ρ1,zx,zh1,e1,R1,rzx,p1⟩=>?_);unfold Qy5 at p1;cases kc:Qa4 zx zh1 with
 | none=>simp only [kc] at p1; exact p1.elim
 | some c =>
   simp only [kc,Option.bind_some] at p1;cases km:mt c with
   | none=>simp only [km] at p1; exact p1.elim
   | some M =>
     simp only [km] at p1;obtain ⟨a',dx,fvs,ex,q,hc,_⟩:=Qc4 R1 rzx kc;obtain ⟨pp,f,fd,ps,hm,FT⟩:=T c M hc km;subst ex;obtain rfl:u=Value.ref a':=rx;refine getprop_ok (C:=g.cad c) (E:=fun _ _ _=>False) I1 q (by rw [hK]; exact gk.cls c hc) hm FT.ok hr FT.bi .nil (fun pins σ H s e s' I c=>?_) ?_
     . obtain ⟨_,_,_,_,_,_,_,_,_,_,_,_,q⟩:=c;exact q.elim
     . exact B6 (zs:=[zx]) (W:=fun _ _ _ _=>False) R1 ⟨_,_,rfl,rzx,rfl⟩ (QO8 p1)
structure PropSet (K:UZ9) (C:Addr) (f:Str) (p s:Addr):Prop where
 tk:PySem.W.takerIn K C f=some (some (.ref p))
 ty:PySem.W.typeIn K (.ref p)=some (.type "property")
 rec_:∃ a rest,PySem.W.recIn K p "property" = some (a :: .ref s::rest)
def SetE (P:Program) (w:World) (K:UZ9) (mg:Str->Option Value) (base:Heap) (g:G) (k:Nat) (m:Str) (mt:Nat->Option Sem):Prop :=
 ∀ c M,g.has c=true->mt c=some M -> ∃ p f fd ps,PropSet K (g.cad c) m p f/\FnT P w K mg base g k f fd ps M
theorem SetE.mono {P:Program} {w:World} {K:UZ9} {mg:Str->Option Value} {base:Heap} {g:G} {k k':Nat} {m:Str} {mt:Nat->Option Sem} (h:SetE P w K mg base g k m mt) (l:k<=k'):SetE P w K mg base g k' m mt:=fun c M h1 h2 =>
 let ⟨p,f,fd,ps,a,b⟩:=h c M h1 h2; ⟨p,f,fd,ps,a,b.mono l⟩
def setP (mt:Nat->Option Sem) (y x:Z) (s:ZS) (h:ZH):OutS:=match (Qa4 x h).bind mt with
 | some M=>(J8 M [x,y] h).bndS s fun _ h1=>.nx s h1
 | none=>.bad
def Qg9 (mt:Nat->Option Sem) (dv da:DE):DS:=fun s h=>(dv s h).bndS s fun y h1=>(da s h1).bndS s fun x h2=>setP mt y x s h2
theorem QJ8 {m:Str} {mt:Nat->Option Sem} (gk:ClsOk g) (hK:X.K=g.K) (T:SetE X.prog X.w X.K X.mg X.base g k m mt) (hr:Room (k+2) X.A) (tk:Takes X W) (ho:ZE g F X W o da) (hv:ZE g F X W value dv) (hs:swapsWith value (some (.Attribute o m pos')) pos.line X.env=pure false:=by rfl) :
   ZS1 g F X W (.Assign [.Attribute o m pos'] value pos) (Qg9 mt dv da):=by
 refine ⟨fun pins s σ H D I ⟨ρ,zσ,zh,RH,RS,p⟩=>?_⟩
 refine plainObj_wpAny_Assign_Attribute (thn (hv.run pins s σ H (fun v H1=>∃ ρ1 z zh1,Ext F ρ zh H ρ1 zh1 H1/\RelH g F ρ1 zh1 H1/\RZ g (UO F ρ1 zh1) H1 ρ1 z v/\PostS g F W ρ1 zh1 H1 ((da zσ zh1).bndS zσ fun x h2=>setP mt z x zσ h2) D) I
   ⟨ρ,zσ,zh,RH,RS,Post.bndS RS p fun ρ1 z zh1 v H1 e1 R1 rz p1=>⟨ρ1,z,zh1,e1,R1,rz,p1⟩⟩) fun u s1 ⟨y,H1,I1,ry,ρ1,zy,zh1,e1,R1,rzy,p1⟩ =>
   thn (ho.run pins s1 σ H1 (fun v H2=>∃ ρ2 z zh2,Ext F ρ1 zh1 H1 ρ2 zh2 H2/\RelH g F ρ2 zh2 H2/\RZ g (UO F ρ2 zh2) H2 ρ2 z v/\PostS g F W ρ2 zh2 H2 (setP mt zy z zσ zh2) D) I1
   ⟨ρ1,zσ,zh1,R1,RS.mono e1,Post.bndS (RS.mono e1) p1 fun ρ2 z zh2 v H2 e2 R2 rz p2=>⟨ρ2,z,zh2,e2,R2,rz,p2⟩⟩) fun ov s2 ⟨x,H2,I2,rx,ρ2,zx,zh2,e2,R2,rzx,p2⟩=>?_) hs
 have rzy2:=RZ.mono e2.stb e2.pre rzy;have RS2:=(RS.mono e1).mono e2;unfold setP at p2;cases kc:Qa4 zx zh2 with
 | none=>simp only [kc] at p2; exact p2.elim
 | some c =>
   simp only [kc,Option.bind_some] at p2;cases km:mt c with
   | none=>simp only [km] at p2; exact p2.elim
   | some M =>
     simp only [km] at p2;obtain ⟨a',dx,fvs,ex,q,hc,_⟩:=Qc4 R2 rzx kc;obtain ⟨pp,f,fd,ps,hm,FT⟩:=T c M hc km;subst ex;obtain rfl:ov=Value.ref a':=rx;obtain ⟨mA,O,_⟩:=ins_get I2.hok q;obtain ⟨od,J,_⟩:=O.look;obtain ⟨m0,hF⟩:=I2.fr;obtain ⟨a0,rest,hrec⟩:=hm.rec_;have cl:L2.Cls X.K (g.cad c):=by rw [hK]; exact gk.cls c hc
     have I3:=I2.tok (s2.toks+1);refine PySem.W.set_prop hF I2.ok.mod.kin J cl.sa cl.po hm.tk hm.ty hrec ?_;refine codeAny_mono (QS6 FT (A1:=X.A.in1.in1) hr.in1.in1 rfl tk (us:=[.ref a',u]) (vs:=[.ref a',y]) (Q:=fun _ H'=>D.nx σ H') I3 (.cons rfl (.cons ry .nil)) (B6 (zs:=[zx,zy]) R2 ⟨_,_,rfl,rzx,_,_,rfl,rzy2,rfl⟩ (Post.bndS (K:=fun _ H'=>D.nx σ H') RS2 p2 fun ρ3 z zh3 v H3 e3 R3 rz p3=>?_))) fun r s' hq=>?_
     . exact p3 ρ3 σ H3 Ext.refl R3 (RS2.mono e3)
     . cases r with
       | error e=>exact hq
       | ok fl =>
         cases fl with
         | ret uu =>
           obtain ⟨v,H',I4,rv,q4⟩:=hq;exact ⟨σ,H',I4,q4⟩
         | next=>exact False.elim hq
         | brk=>exact False.elim hq
         | cont=>exact False.elim hq
end
section
variable {QZ:Z->ZH->Prop} {E:ZX->ZH->Prop} {s:ZS} {h:ZH} {da db dv:DE} {K:KS}
theorem wp_okE {o:Out Z}:(okE o).wp QZ E=o.wp QZ (fun _ _=>False):=by
 cases o with
 | ok z h=>unfold okE; dsimp only; rw [wp_ok,wp_ok]
 | exc x h=>unfold okE; dsimp only; rw [wp_bad,wp_exc]
 | bad=>unfold okE; dsimp only; rw [wp_bad,wp_bad]
theorem wp_prop {mt:Nat->Option Sem}:(Qs1 mt da s h).wp QZ E=(da s h).wp (fun x h1=>S9 ((Qa4 x h1).bind mt) fun M=>(J8 M [x] h1).wp QZ (fun _ _=>False)) E:=by
 unfold Qs1;rw [wp_bnd];refine Y5 fun x h1=>?_;unfold Qy5;cases (Qa4 x h1).bind mt with
 | none=>rw [optP_none]; dsimp only; rw [wp_bad]
 | some M=>rw [optP_some]; dsimp only; rw [wp_okE]
theorem wps_setProp {mt:Nat->Option Sem}:(Qg9 mt dv da s h).wp K=(dv s h).wp (fun y h1=>(da s h1).wp (fun x h2=>S9 ((Qa4 x h2).bind mt) fun M=>(J8 M [x,y] h2).wp (fun _ h3=>K.nx s h3) (fun x h=>K.ex x s h)) (fun x h=>K.ex x s h)) (fun x h=>K.ex x s h):=by
 unfold Qg9;rw [wp_bndS];refine Y5 fun y h1=>?_;rw [wp_bndS];refine Y5 fun x h2=>?_;unfold setP;cases (Qa4 x h2).bind mt with
 | none=>rw [optP_none]; dsimp only; rw [wps_bad]
 | some M =>
   rw [optP_some];dsimp only;rw [wp_bndS];exact Y5 fun _ _=>by rw [wps_nx]
end
theorem xOp_ok {x m:Str} {K:UZ9} (h:xOp x m K=true):PySem.W.fnIn K (He.ma K (He.ga K x) m)=true/\PySem.W.noSeq K (He.ga K x)=true:=He.ba h
theorem QO9 {l:Option (List Value)} {g:Addr} (h:QT2 l g=true):∃ rest,l=some (.ref g::rest):=by
 unfold QT2 at h
 split at h
 . rename_i a r;rw [of_decide_eq_true h];exact ⟨r,rfl⟩
 . cases h
theorem QP0 {l:Option (List Value)} {g:Addr} (h:QT3 l g=true):∃ a rest,l=some (a :: .ref g::rest):=by
 unfold QT3 at h
 split at h
 . rename_i b a r;rw [of_decide_eq_true h];exact ⟨b,r,rfl⟩
 . cases h
theorem QP1 {x f:Str} {K:UZ9} (h:QT6 x f K=true):PropOf K (He.ga K x) f (QC3 x f K) (QT4 x f K) :=
 let ⟨a,h⟩:=He.ba h
 let ⟨b,h⟩:=He.ba h
 let ⟨c,d⟩:=He.ba h
 ⟨He.eqO_ok a,He.eqO_ok b,of_decide_eq_true c,QO9 d⟩
theorem QP2 {x f:Str} {K:UZ9} (h:QT7 x f K=true):PropSet K (He.ga K x) f (QC3 x f K) (QT5 x f K) :=
 let ⟨a,h⟩:=He.ba h
 let ⟨b,c⟩:=He.ba h
 ⟨He.eqO_ok a,of_decide_eq_true b,QP0 c⟩
section
variable {g:G} {F:Fr} {X:Cx} {W:WX} {k:Nat} {o i:Expr} {da db:DE} {pos:Pos}
theorem QJ9 {mt:Nat->Option Sem} (gk:ClsOk g) (hK:X.K=g.K) (T:OpE X.prog X.w X.K X.mg X.base g k "__setitem__" mt) (hr:Room (k+1) X.A) (tk:Takes X W) (ho:ZE g F X W o da) (hi:ZE g F X W i db)
   (ha:∀ v,assign (.Subscript o i pos) X.env v=(do
     let ov <- holding [v] (eval o X.env)
     let iv <- holding [v,ov] (eval i X.env)
     standAt pos
     holding [v,ov,iv] (setItem ov iv v)
     release [v,ov,iv] []):=by intro _; rfl):ZG g F X W (.Subscript o i pos) (QB4 mt da db):=by
 refine ⟨fun pins s σ H v u Q I r ⟨ρ,zσ,zh,zv,RH,RS,rz,p⟩=>?_⟩;rw [ha]
 refine wpAny_bind (wpAny_holding (thn (ho.run pins s σ H (fun w H1=>∃ ρ1 z zh1,Ext F ρ zh H ρ1 zh1 H1/\RelH g F ρ1 zh1 H1/\RZ g (UO F ρ1 zh1) H1 ρ1 z w/\PostS g F W ρ1 zh1 H1 ((db zσ zh1).bndS zσ fun y h2=>Xc2 mt zv z y zσ h2) { nx:=Q,rt:=fun _ _=>False }) I
   ⟨ρ,zσ,zh,RH,RS,Post.bndS RS p fun ρ1 z zh1 w H1 e1 R1 rz p1=>⟨ρ1,z,zh1,e1,R1,rz,p1⟩⟩) fun ov s1 ⟨x,H1,I1,rx,ρ1,zx,zh1,e1,R1,rzx,p1⟩=>?_))
 refine wpAny_bind (wpAny_holding (thn (hi.run pins s1 σ H1 (fun w H2=>∃ ρ2 z zh2,Ext F ρ1 zh1 H1 ρ2 zh2 H2/\RelH g F ρ2 zh2 H2/\RZ g (UO F ρ2 zh2) H2 ρ2 z w/\PostS g F W ρ2 zh2 H2 (Xc2 mt zv zx z zσ zh2) { nx:=Q,rt:=fun _ _=>False }) I1
   ⟨ρ1,zσ,zh1,R1,RS.mono e1,Post.bndS (RS.mono e1) p1 fun ρ2 z zh2 w H2 e2 R2 rz p2=>⟨ρ2,z,zh2,e2,R2,rz,p2⟩⟩) fun iv s2 ⟨y,H2,I2,ry,ρ2,zy,zh2,e2,R2,rzy,p2⟩=>?_))
 refine wpAny_bind (wpAny_standAt (wpAny_bind (wpAny_holding (thn (Q:=fun _ s'=>∃ H',Inv X pins σ H' s'/\Q σ H') ?_ fun _ s3 ⟨H3,I3,q3⟩=>wpAny_release ⟨σ,H3,I3,q3⟩))));have rzx2:=RZ.mono e2.stb e2.pre rzx;have rzv2:=RZ.mono (e1.trans e2).stb (e1.trans e2).pre rz;have RS2:=(RS.mono e1).mono e2;unfold Xc2 at p2;cases kc:Qa4 zx zh2 with
 | none=>simp only [kc] at p2; exact p2.elim
 | some c =>
   simp only [kc,Option.bind_some] at p2;cases km:mt c with
   | none=>simp only [km] at p2; exact p2.elim
   | some M =>
     simp only [km] at p2;obtain ⟨a',dx,fvs,ex,q,hc,_⟩:=Qc4 R2 rzx2 kc;obtain ⟨f,fd,ps,hm,FT,hfn,hq⟩:=T c M hc km;subst ex;obtain rfl:ov=Value.ref a':=rx;obtain ⟨mA,J,_⟩:=ins_get I2.hok q;obtain ⟨od,J,_⟩:=J.look;obtain ⟨m0,hF⟩:=I2.fr;have I3:=I2;refine PySem.W.ksp_setItem hF I3.ok.mod.kin J hq hm.at_ hm.fn ?_;refine wpAny_mono (QZ3 (A1:=X.A) FT (hr.mono (by omega)) rfl tk (us:=[.ref a',iv,u]) (vs:=[.ref a',y,v]) (Q:=fun _ H'=>Q σ H') I3 (.cons rfl (.cons ry (.cons r .nil))) (B6 (zs:=[zx,zy,zv]) R2 ⟨_,_,rfl,rzx2,_,_,rfl,rzy,_,_,rfl,rzv2,rfl⟩ (Post.bndS (K:=fun _ H'=>Q σ H') RS2 p2 fun ρ3 z zh3 w H3 e3 R3 rz p3=>?_))) (fun w s' ⟨v',H',I4,_,q4⟩=>⟨H',I4,q4⟩) (fun _ _ q=>q);exact p3 ρ3 σ H3 Ext.refl R3 (RS2.mono e3)
end
section
variable {s:ZS} {h:ZH} {da db:DE} {K:KS} {v:Z}
theorem wps_setI {mt:Nat->Option Sem}:(QB4 mt da db v s h).wp K=(da s h).wp (fun x h1=>(db s h1).wp (fun y h2=>S9 ((Qa4 x h2).bind mt) fun M=>(J8 M [x,y,v] h2).wp (fun _ h3=>K.nx s h3) (fun x h=>K.ex x s h)) (fun x h=>K.ex x s h)) (fun x h=>K.ex x s h):=by
 unfold QB4;rw [wp_bndS];refine Y5 fun x h1=>?_;rw [wp_bndS];refine Y5 fun y h2=>?_;unfold Xc2;cases (Qa4 x h2).bind mt with
 | none=>rw [optP_none]; dsimp only; rw [wps_bad]
 | some M =>
   rw [optP_some];dsimp only;rw [wp_bndS];exact Y5 fun _ _=>by rw [wps_nx]
end
open TL (tl tl_mk mk_tl)
def QK0 (c:Nat):Nat:=if 97<=c/\c<=122 then c - 32 else c
def opUpper:OpM:=fun x zs h=>match x,zs with
 | .d (.str a),[]=>if (∀ c∈a,c<128)/\a.length<=1000 then .ok (.d (.str (a.map QK0))) h else .bad
 | _,_=>.bad
section
variable {g:G} {F:Fr} {X:Cx} {W:WX} {o:Expr} {da:DE} {pos apos cpos:Pos}
theorem QK1 {a:List Nat} (h:∀ c∈a,c<128):Txt.upper (mkS a)=mkS (a.map QK0):=by
 rw [PyProof.Rows.upper_ascii (x:=mkS a) (fun c hc=>h c (by simpa [mkS] using hc))];simp [mkS];intro c _;rfl
theorem QK2:QU9 g (fun x xs H Q=>∃ a,x = .str a/\xs=[]/\a.length<=5592405/\Q (.str (Txt.upper a)) H) opUpper:=by
 intro F W ρ zσ zh σ H zx zs x vs Q RH rx rz p;unfold opUpper at p
 split at p
 . rename_i s;obtain ⟨rfl,ok⟩:=rz_str.mp rx;have e0:vs=[]:=rz
   split at p
   . rename_i hl;refine ⟨mkS s,rfl,e0,by simp [mkS,Str.length]; omega,?_⟩;rw [QK1 hl.1]
     exact p ρ _ H Ext.refl RH (rz_str.mpr ⟨rfl,fun c hc=>by
       obtain ⟨d,hd,rfl⟩:=List.mem_map.mp hc;have:=hl.1 d hd;unfold QK0
       split <;> omega,by rw [sizeLine_eq,Xq5]; omega⟩)
   . exact p.elim
 . exact p.elim
theorem QZ4 (hK:X.K=g.K) (ho:ZE g F X W o da) (hbase:attributeBase o "upper" X.env (eval o X.env)=eval o X.env:=by rfl) (hline:(apos.endLine == cpos.line)=true:=by rfl):ZE g F X W (.Call (.Attribute o "upper" apos) [] [] cpos) (P6 isStr opUpper da dNil) :=
 Qt9 PySem.F.plainAttrs_str PySem.F.slot_str_upper PySem.F.type_str_upper hK mt_upper QK2 ty_str ho hbase hline
end
section
variable {h:ZH}
theorem upper_s {a:List Nat}:opUpper (.d (.str a)) [] h=if (∀ c∈a,c<128)/\a.length<=1000 then .ok (.d (.str (a.map QK0))) h else .bad:=id rfl
end
end Zl
end
section
namespace PySem
open Sem (wp)
section
variable {prog:Program} {w:World} {A:Around} {R:GenEnd} {Y:Protocol} {n:Nat} {s₀:Shared} {fs:List Frame} {s:Shared} {env:Env}
end
section
variable {M:Model} {A:Around} {R:GenEnd} {Y:Protocol} {n:Nat} {s₀:Shared} {c:Code} {fs:List Frame} {s:Shared} {env:Env}
 {K:Flow->Sem Fin} {H:Value->Sem Fin} {gd:Bool->Bool} {lv:List Value->List Value}
end
end PySem
namespace L2
open PySem PySem.Spec PyProof.Rows GenW
section
variable {X:Cx} {st:Stmt} {rest:List Stmt}
end
end L2
end
section
namespace Zl
open PySem PySem.Spec PyProof.Rows L2 GenW
inductive OutY where
 | nx (ys:List D) (s:ZS) (h:ZH)
 | bad
abbrev DY:=List D->ZS->ZH->OutY
section
variable {g:G} {F:Fr} {X:Cx} {W:WX} {st:Stmt} {sts:List Stmt} {e:Expr} {de:DE} {d:DS} {dy dy2:DY} {pos yp:Pos}
def PostY (g:G) (F:Fr) (ρ:List Addr) (zh:ZH) (H:Hp) (out:OutY) (C:List V->L2.St->Hp->Prop):Prop:=match out with
 | .nx ys s h=>∀ ρ' σ' H' vs,Ext F ρ zh H ρ' h H'->RelH g F ρ' h H'->RelS g (UO F ρ' h) H' ρ' s σ'->RDs g (UO F ρ' h) H' ys vs->C vs σ' H'
 | .bad=>False
theorem PostY.shift {ρ ρ1:List Addr} {zh zh1:ZH} {H H1:Hp} {C:List V->L2.St->Hp->Prop} (e:Ext F ρ zh H ρ1 zh1 H1) {out:OutY} (p:PostY g F ρ zh H out C):PostY g F ρ1 zh1 H1 out C:=by
 cases out with
 | nx ys s h=>exact fun ρ' σ' H' vs e'=>p ρ' σ' H' vs (e.trans e')
 | bad=>exact p
theorem GS.imp {t t':TGn} (h:GS X st t) (k:∀ D vs σ H,t' D vs σ H->t D vs σ H):GS X st t' :=
 ⟨fun A S ip R n ys s₀ c fs K J gd lv s σ H D g hn kk hI ht=>h.run A S ip R n ys s₀ c fs K J gd lv s σ H D g hn kk hI (k D ys σ H ht)⟩
theorem GSs.imp {t t':TGn} (h:GSs X sts t) (k:∀ D vs σ H,t' D vs σ H->t D vs σ H):GSs X sts t' :=
 ⟨fun A S ip R n ys s₀ c fs K J gd lv s σ H D g hn kk hI ht=>h.run A S ip R n ys s₀ c fs K J gd lv s σ H D g hn kk hI (k D ys σ H ht)⟩
open Classical in
def yLoop (gd:ZH->Prop) (t:DG) (b:DY):List Z->DY
 | [],ys,s,h=>.nx ys s h
 | z :: zs,ys,s,h=>match t z s h with
   | .nx s1 h1=>match b ys s1 h1 with
     | .nx ys2 s2 h2=>if gd h2 then yLoop gd t b zs ys2 s2 h2 else .bad
     | .bad=>.bad
   | _=>.bad
end
def spG (g:G) (M:Sem):SpG:=fun vs H cont _=>∃ F ρ zs zh ds h',RelH g F ρ zh H/\RZs g (UO F ρ zh) H ρ zs vs/\M zs zh = .ok (.d (.lst ds)) h' /\
 ∀ ρ' H' vs',Ext F ρ zh H ρ' h' H'->RelH g F ρ' h' H'->RDs g (UO F ρ' h') H' ds vs'->cont vs' H'
structure GnT (P:Program) (w:World) (K:UZ9) (mg:Str->Option Value) (base:Heap) (g:G) (k:Nat) (f:Addr) (fd:FuncData) (ps:List Str) (M:Sem):Prop where
 ok:GFn P w K mg base k f fd ps (spG g M)
 kp:PySem.W.keepIn K (.ref f)=true
 bi:Binds K fd ps []
 lst:∀ zs h,(∃ ds h',M zs h = .ok (.d (.lst ds)) h')\/M zs h = .bad
theorem GnT.mono {P:Program} {w:World} {K:UZ9} {mg:Str->Option Value} {base:Heap} {g:G} {j k:Nat} {f:Addr} {fd:FuncData} {ps:List Str} {M:Sem} (T:GnT P w K mg base g k f fd ps M) (h:k<=j):GnT P w K mg base g j f fd ps M:=by
 refine ⟨⟨T.ok.len,fun A outer s H args us vs Q E hr e0 hb r q=>?_⟩,T.kp,T.bi,T.lst⟩;refine codeAny_mono (T.ok.run A outer s H args us vs Q E (hr.mono h) e0 hb r q) fun r s' hq=>?_;cases r with
 | error e=>exact hq
 | ok fl =>
   cases fl with
   | ret u =>
     obtain ⟨a,gg,c,h1,h2,h3,h4,h5,h6,h7,h8,h9,h10⟩:=hq;exact ⟨a,gg,c,h1,h2,h3,h4,h5,h6,h7,h8,h9,fun A S s2 hr2=>h10 A S s2 (hr2.mono h)⟩
   | next=>exact hq
   | brk=>exact hq
   | cont=>exact hq
def GenE (P:Program) (w:World) (K:UZ9) (mg:Str->Option Value) (base:Heap) (g:G) (k:Nat) (m:Str) (mt:Nat->Option Sem):Prop :=
 ∀ c M,g.has c=true->mt c=some M -> ∃ f fd ps,Meth g.K (g.cad c) m f/\GnT P w K mg base g k f fd ps M /\ ∀ x∈X0 c,fnm x≠m
theorem GenE.mono {P:Program} {w:World} {K:UZ9} {mg:Str->Option Value} {base:Heap} {g:G} {j k:Nat} {m:Str} {mt:Nat->Option Sem} (T:GenE P w K mg base g k m mt) (h:k<=j):GenE P w K mg base g j m mt:=fun c M h1 h2 =>
 let ⟨f,fd,ps,a,b,d⟩:=T c M h1 h2; ⟨f,fd,ps,a,b.mono h,d⟩
section
variable {g:G} {F:Fr} {X:Cx} {W:WX} {o:Expr} {da:DE} {apos pos pos2 p:Pos} {k:Nat} {m:Str} {mt:Nat->Option Sem} {pl:PySem.Sem Bool}
end
@[irreducible] def OutY.wp (o:OutY) (Q:List D->ZS->ZH->Prop):Prop:=match o with
 | .nx ys s h=>Q ys s h
 | .bad=>False
section
variable {Q:List D->ZS->ZH->Prop} {ys:List D} {s:ZS} {h:ZH} {a b:DY}
end
end Zl
end
section
namespace Zl
open PySem PySem.Spec PyProof.Rows L2 PySem.W
open Builtin Builtin.Str Builtin.Int Builtin.Float
end Zl
end
section
namespace Zl
open PySem PySem.Spec PyProof.Rows L2
open TL (tl tl_mk mk_tl tl_append)
section
variable {g:G} {F:Fr} {X:Cx} {W:WX} {e o:Expr} {da:DE} {d:DA} {es:List Expr} {pos p1 p2 p3 apos cpos p:Pos} {k:Nat}
end
section
variable {QZ:Z->ZH->Prop} {E:ZX->ZH->Prop} {s:ZS} {h:ZH} {da:DE}
end
end Zl
end
section
namespace Zl
open PySem PySem.Spec PyProof.Rows L2
section
variable {g:G} {F:Fr} {X:Cx} {W:WX} {k:Nat} {fe e:Expr} {es:List Expr} {da:DE} {d:DA} {pos:Pos}
end
section
variable {QZ:Z->ZH->Prop} {E:ZX->ZH->Prop} {s:ZS} {h:ZH} {da:DE} {d:DA}
end
def SupE (P:Program) (w:World) (K:UZ9) (mg:Str->Option Value) (base:Heap) (g:G) (k:Nat) (D:Addr) (m:Str) (mt:Nat->Option Sem):Prop :=
 ∀ c M,g.has c=true->mt c=some M -> ∃ f fd ps,PySem.W.ks_superIn K (g.cad c) D m=some (some (.ref f))/\PySem.W.typeIn K (.ref f)=some (.type "function")/\PySem.W.fnIn K f=true/\PySem.W.mroIn K (g.cad c) (.ref D)=some true/\PySem.W.nsIn K cStatics "thirdparty.any" = some none/\FnT P w K mg base g k f fd ps M
theorem SupE.mono {P:Program} {w:World} {K:UZ9} {mg:Str->Option Value} {base:Heap} {g:G} {j k:Nat} {D:Addr} {m:Str} {mt:Nat->Option Sem} (T:SupE P w K mg base g j D m mt) (h:j<=k):SupE P w K mg base g k D m mt:=fun c M h1 h2 =>
 let ⟨f,fd,ps,a,b,d,e,x,y⟩:=T c M h1 h2; ⟨f,fd,ps,a,b,d,e,x,y.mono h⟩
section
variable {g:G} {F:Fr} {X:Cx} {W:WX} {k:Nat} {e:Expr} {es:List Expr} {d:DA}
end
section
variable {g:G} {F:Fr} {X:Cx} {W:WX} {c:Code} {st:Stmt} {sts:List Stmt} {d d':DS}
theorem PSsA.imp {t t':TS} (h:PSsA X c sts t) (k:∀ D σ H,t' D σ H->t D σ H):PSsA X c sts t':=⟨fun pins s σ H D I q=>h.run pins s σ H D I (k D σ H q)⟩
end
section
variable {K:KS} {s:ZS} {h:ZH} {d:DA}
end
open TL
section
variable {g:G} {F:Fr} {X:Cx} {W:WX} {sts:List Stmt}
end
section
variable {K:KS} {s:ZS} {h:ZH} {d:DS}
end
end Zl
end
section
namespace Zl
open PySem PySem.Spec PyProof.Rows L2
def padN (M:Sem):Sem:=fun zs h=>M (zs++[Z.d D.non]) h
structure FnTd (P:Program) (w:World) (K:UZ9) (mg:Str->Option Value) (base:Heap) (g:G) (k:Nat) (f:Addr) (fd:FuncData) (ps:List Str) (M:Sem):Prop where
 ok:FnOk P w K mg base (L2.CX P w) k f fd ps (lowF g M)
 kp:PySem.W.keepIn K (.ref f)=true
 bi:∃ ds,Vals [V.non] ds/\Binds K fd ps ds
structure GnTd (P:Program) (w:World) (K:UZ9) (mg:Str->Option Value) (base:Heap) (g:G) (k:Nat) (f:Addr) (fd:FuncData) (ps:List Str) (M:Sem):Prop where
 ok:GFn P w K mg base k f fd ps (spG g M)
 kp:PySem.W.keepIn K (.ref f)=true
 bi:∃ ds,Vals [V.non] ds/\Binds K fd ps ds
 lst:∀ zs h,(∃ ds h',M zs h = .ok (.d (.lst ds)) h')\/M zs h = .bad
theorem FnTd.mono {P:Program} {w:World} {K:UZ9} {mg:Str->Option Value} {base:Heap} {g:G} {j k:Nat} {f:Addr} {fd:FuncData} {ps:List Str} {M:Sem} (T:FnTd P w K mg base g k f fd ps M) (h:k<=j):FnTd P w K mg base g j f fd ps M :=
 ⟨⟨T.ok.len,fun A outer s H args us vs Q E hr=>T.ok.run A outer s H args us vs Q E (hr.mono h)⟩,T.kp,T.bi⟩
theorem GnTd.mono {P:Program} {w:World} {K:UZ9} {mg:Str->Option Value} {base:Heap} {g:G} {j k:Nat} {f:Addr} {fd:FuncData} {ps:List Str} {M:Sem} (T:GnTd P w K mg base g k f fd ps M) (h:k<=j):GnTd P w K mg base g j f fd ps M:=by
 refine ⟨⟨T.ok.len,fun A outer s H args us vs Q E hr e0 hb r q=>?_⟩,T.kp,T.bi,T.lst⟩;refine codeAny_mono (T.ok.run A outer s H args us vs Q E (hr.mono h) e0 hb r q) fun r s' hq=>?_;cases r with
 | error e=>exact hq
 | ok fl =>
   cases fl with
   | ret u =>
     obtain ⟨a,gg,c,h1,h2,h3,h4,h5,h6,h7,h8,h9,h10⟩:=hq;exact ⟨a,gg,c,h1,h2,h3,h4,h5,h6,h7,h8,h9,fun A S s2 hr2=>h10 A S s2 (hr2.mono h)⟩
   | next=>exact hq
   | brk=>exact hq
   | cont=>exact hq
def MethEd (P:Program) (w:World) (K:UZ9) (mg:Str->Option Value) (base:Heap) (g:G) (k:Nat) (m:Str) (mt:Nat->Option Sem):Prop :=
 ∀ c M,g.has c=true->mt c=some M -> ∃ f fd ps M0,Meth g.K (g.cad c) m f/\FnTd P w K mg base g k f fd ps M0/\M=padN M0 /\ ∀ x∈X0 c,fnm x≠m
def GenEd (P:Program) (w:World) (K:UZ9) (mg:Str->Option Value) (base:Heap) (g:G) (k:Nat) (m:Str) (mt:Nat->Option Sem):Prop :=
 ∀ c M,g.has c=true->mt c=some M -> ∃ f fd ps M0,Meth g.K (g.cad c) m f/\GnTd P w K mg base g k f fd ps M0/\M=padN M0 /\ ∀ x∈X0 c,fnm x≠m
theorem MethEd.mono {P:Program} {w:World} {K:UZ9} {mg:Str->Option Value} {base:Heap} {g:G} {j k:Nat} {m:Str} {mt:Nat->Option Sem} (T:MethEd P w K mg base g k m mt) (h:k<=j):MethEd P w K mg base g j m mt:=fun c M h1 h2 =>
 let ⟨f,fd,ps,M0,a,b,d,e⟩:=T c M h1 h2; ⟨f,fd,ps,M0,a,b.mono h,d,e⟩
theorem GenEd.mono {P:Program} {w:World} {K:UZ9} {mg:Str->Option Value} {base:Heap} {g:G} {j k:Nat} {m:Str} {mt:Nat->Option Sem} (T:GenEd P w K mg base g k m mt) (h:k<=j):GenEd P w K mg base g j m mt:=fun c M h1 h2 =>
 let ⟨f,fd,ps,M0,a,b,d,e⟩:=T c M h1 h2; ⟨f,fd,ps,M0,a,b.mono h,d,e⟩
section
variable {g:G} {F:Fr} {X:Cx} {W:WX}
end
section
variable {g:G} {F:Fr} {X:Cx} {W:WX} {a b c e o value:Expr} {es:List Expr} {da db dc:DE} {pos pos' apos:Pos}
end
section
variable {g:G} {F:Fr} {X:Cx} {W:WX} {o:Expr} {da:DE} {apos pos pos2 p:Pos} {k:Nat} {m:Str} {mt:Nat->Option Sem} {pl:PySem.Sem Bool}
end
open AutoSeq1 (wpAny_loadPart')
section
variable {prog:Program} {w:World} {A:Around} {E:Value->Shared->Prop} {s:Shared}
end
end Zl
end
section
namespace Zl
open PySem PySem.Spec PyProof.Rows L2
open TL
section
variable {g:G} {F:Fr} {X:Cx} {W:WX} {e:Expr} {da:DE} {pos:Pos}
end
section
variable {E:ZX->ZH->Prop} {s:ZS} {h:ZH} {da:DE}
end
end Zl
end
section
namespace Zl
open PySem PySem.Spec PyProof.Rows L2
open TL
section
variable {g:G} {F:Fr} {X:Cx} {W:WX} {e:Expr} {es:List Expr} {d:DA} {p pos:Pos}
end
section
variable {QZ:Z->ZH->Prop} {E:ZX->ZH->Prop} {h:ZH}
end
end Zl
end
section
namespace Zl
open PySem PySem.Spec PyProof.Rows L2
open TL
section
variable {g:G} {F:Fr} {X:Cx} {W:WX} {o i e:Expr} {da db dc:DE} {d:DA} {pos tpos apos cpos:Pos}
end
section
variable {QZ:Z->ZH->Prop} {E:ZX->ZH->Prop} {K:KS} {s:ZS} {h:ZH} {da db dc:DE} {op:Op2}
end
end Zl
end
section
namespace Zl
open PySem PySem.Spec PyProof.Rows L2
open TL
section
variable {g:G} {F:Fr} {X:Cx} {W:WX} {c:Expr} {pos:Pos}
end
section
variable {K:KS} {s:ZS} {h:ZH} {t:DT} {d:DS}
def KS.wh (K:KS) (k:ZS->ZH->Prop):KS:=⟨k,K.rt,K.nx,k,K.ex⟩
end
end Zl
end
section
namespace Zl
open PySem PySem.Spec PyProof.Rows L2
open TL
section
variable {g:G} {F:Fr} {X:Cx} {W:WX} {px py pz pos:Pos} {kk:Nat}
end
section
variable {K:KS} {s:ZS} {h:ZH}
end
end Zl
end
section
namespace Zl
open PySem PySem.Spec PyProof.Rows L2
open TL
section
variable {X:Cx} {es:List Expr} {pos:Pos} {t:TA}
variable {o e:Expr} {to:TE} {apos cpos:Pos}
end
section
variable {g:G} {F:Fr} {X:Cx} {W:WX} {a b e o:Expr} {es:List Expr} {da db:DE} {d:DA} {pos apos cpos:Pos} {p:Pos}
end
section
variable {QZ:Z->ZH->Prop} {E:ZX->ZH->Prop} {s:ZS} {h:ZH} {da:DE} {ds:DA}
end
end Zl
end
section
namespace Zl
open PySem PySem.Spec PyProof.Rows L2
open TL
mutual
def QB5 (H:Hp):NestedKey->V->Prop
 | .none,v=>v = .non
 | .num i,v=>v = .int i
 | .text x,v=>v = .str x
 | .tup ks,v=>∃ a vs,v = .ref a/\Rd H a (.tup vs)/\Qs2 H ks vs
def Qs2 (H:Hp):List NestedKey->List V->Prop
 | [],vs=>vs=[]
 | k::ks,vs=>∃ v vs',vs=v::vs'/\QB5 H k v/\Qs2 H ks vs'
end
section
variable {g:G} {U:Addr->Prop} {H:Hp}
mutual
theorem QK3:∀ (d:D) (v:V) (k:NestedKey),RD g U H d v->nkD d=some k->QB5 H k v
 | .non,v,k,r,e=>by unfold nkD at e; cases e; unfold QB5; exact rd_non.mp r
 | .int i,v,k,r,e=>by unfold nkD at e; cases e; unfold QB5; exact rd_int.mp r
 | .str s,v,k,r,e=>by unfold nkD at e; cases e; unfold QB5; exact (rd_str.mp r).1
 | .tup xs,v,k,r,e=>by
   unfold nkD at e;obtain ⟨ks,e1,rfl⟩:=Option.map_eq_some_iff.mp e;obtain ⟨a,vs,rfl,_,q,rr⟩:=rd_tup.mp r;unfold QB5;exact ⟨a,vs,rfl,q,Qc8 xs vs ks rr e1⟩
 | .tupN xs,v,k,r,e=>by
   unfold nkD at e;obtain ⟨ks,e1,rfl⟩:=Option.map_eq_some_iff.mp e;obtain ⟨a,vs,od,rfl,_,q,_,rr⟩:=rd_tupN.mp r;unfold QB5;exact ⟨a,vs,rfl,.inr ⟨od,q⟩,Qc8 xs vs ks rr e1⟩
 | .bl _,_,_,_,e=>by unfold nkD at e; cases e
 | .lst _,_,_,_,e=>by unfold nkD at e; cases e
 | .scr _,_,_,_,e=>by unfold nkD at e; cases e
 | .obj _ _,_,_,_,e=>by unfold nkD at e; cases e
 | .dic _ _,_,_,_,e=>by unfold nkD at e; cases e
 | .dit _ _,_,_,_,e=>by unfold nkD at e; cases e
 | .cls _,_,_,_,e=>by unfold nkD at e; cases e
theorem Qc8:∀ (ds:List D) (vs:List V) (ks:List NestedKey),RDs g U H ds vs->Xb5 ds=some ks->Qs2 H ks vs
 | [],vs,ks,r,e=>by unfold Xb5 at e; cases e; unfold Qs2; exact rds_nil.mp r
 | d::ds,vs,ks,r,e=>by
   unfold Xb5 at e;obtain ⟨k,e1,e⟩:=Option.bind_eq_some_iff.mp e;obtain ⟨ks',e2,rfl⟩:=Option.map_eq_some_iff.mp e;obtain ⟨v,vs',rfl,r1,r2⟩:=rds_cons.mp r;unfold Qs2;exact ⟨v,vs',rfl,QK3 d v k r1 e1,Qc8 ds vs' ks' r2 e2⟩
end
end
section
variable {P:Program} {w:World} {H:Hp} {h:Heap}
mutual
theorem QS7 (ok:HOk P w H h):∀ (k:NestedKey) (v:V) (u:Value),QB5 H k v->RelV v u->NestedIs h k u
 | .none,v,u,e,r=>by unfold QB5 at e; subst e; cases r; exact .none
 | .num i,v,u,e,r=>by unfold QB5 at e; subst e; obtain ⟨t,rfl⟩:=r; exact .int i t
 | .text x,v,u,e,r=>by unfold QB5 at e; subst e; obtain ⟨t,rfl⟩:=r; exact .text x t
 | .tup ks,v,u,e,r=>by
   unfold QB5 at e;obtain ⟨a,vs,rfl,q,kk⟩:=e;obtain rfl:u=Value.ref a:=r;obtain ⟨_,its,rv,o,ho,hc,n,hd⟩:=(show ObjOk P w H h a (.tup vs) from q.ok ok);exact .tup ho hc hd (Qy6 ok ks vs its kk rv)
theorem Qy6 (ok:HOk P w H h):∀ (ks:List NestedKey) (vs:List V) (us:List Value),Qs2 H ks vs->Vals vs us->NestedAll h ks us
 | [],vs,us,e,r=>by unfold Qs2 at e; subst e; cases r; exact .nil
 | k::ks,vs,us,e,r=>by
   unfold Qs2 at e;obtain ⟨v,vs',rfl,e1,e2⟩:=e;cases r with
   | cons r1 r2=>exact .cons (QS7 ok k v _ e1 r1) (Qy6 ok ks vs' _ e2 r2)
end
end
structure DicN (w:World) (H:Hp) (a:Addr) (xs:List NK) (vs:List V):Prop where
 at_:H a=some (ditO a (xs.map (entN w)).toArray)
 sm:(a == sysModules)=false
 nd:(xs.map (·.1)).Nodup
 sz:xs.length<=sizeLine
 dep:∀ x∈xs,x.1.depth<=8
 key:∀ x∈xs,QB5 H x.1 (.ref x.2.1)
 val:Vals vs (xs.map fun x=>x.2.2)
theorem QZ5 {w:World} {h:Heap} {a:Addr} {P:Program} {H:Hp} {xs:List NK} (ok:ObjOk P w H h a (ditO a (xs.map (entN w)).toArray)):∃ o ep,h.get? a=some o/\o.ExactDict/\o.data = .dict (xs.map (entN w)).toArray ep:=ok.1
section
variable {X:Cx} {pins:List (Addr × Obj)} {σ:L2.St} {H:Hp} {s:Shared} {a:Addr} {xs:List NK} {vs:List V}
theorem DicN.heap (e:DicN X.w H a xs vs) (I:Inv X pins σ H s):s.heap.DictOfH (nestedKind X.prog X.w) a xs:=by
 obtain ⟨o,ep,ho,hx,hd⟩:=QZ5 (I.hok a _ e.at_);exact ⟨o,_,ep,ho,hx,hd,rfl,fun x hx=>⟨QS7 I.hok x.1 _ _ (e.key x hx) rfl,e.dep x hx⟩,e.nd⟩
variable {o i value:Expr} {td ty tv:TE} {pos pos':Pos}
variable {f:Expr} {tf:TE} {apos cpos:Pos}
end
end Zl
end
section
namespace Zl
open PySem PySem.Spec PyProof.Rows L2
open TL
section
variable {X:Cx}
end
end Zl
end
section
namespace Zl
open PySem PySem.Spec PyProof.Rows L2
open TL
def keyN (x:D):Option NestedKey:=match nkD x with
 | some (.tup ks)=>if (NestedKey.tup ks).depth<=8 then some (.tup ks) else none
 | _=>none
def nkE (a b:D):Bool:=decide (nkD a=nkD b)
def valN:List D->List D->D->Option D
 | k::ks,v::vs,x=>if nkE k x=true then some v else valN ks vs x
 | _,_,_=>none
def repN:List D->List D->D->D->List D
 | k::ks,v::vs,x,y=>(if nkE k x=true then y else v)::repN ks vs x y
 | _,_,_,_=>[]
section
variable {g:G} {U:Addr->Prop} {H:Hp}
end
def putTk (i:Nat) (k v:D) (h:ZH):Option ZH:=match h[i]? with
 | some (.dit ks ds)=>if ks.length<1000000 then match keyN k with
     | some _=>match valN ks ds k with
       | some _=>some (h.set i (.dit ks (repN ks ds k v)))
       | none=>some (h.set i (.dit (ks++[k]) (ds++[v])))
     | none=>none
   else none
 | _=>none
section
variable {g:G} {F:Fr} {ρ:List Addr} {zh:ZH} {H:Hp}
end
section
variable {g:G} {F:Fr} {X:Cx} {W:WX} {a b c e o f:Expr} {es:List Expr} {da db dc:DE} {d:DA} {pos apos cpos:Pos} {ρ:List Addr} {zσ:ZS} {zh:ZH} {σ:L2.St} {H:Hp}
open Classical in
def QK4 (gd:ZH->Prop) (t:Z->ZS) (tt:DT) (dk dv:DE) (n:Nat):List Z->ZH->Out Unit
 | [],h=>.ok () h
 | z :: zs,h=>match tt (t z) h with
   | .ok true h1=>match dk (t z) h1 with
     | .ok (.d k) h2=>match dv (t z) h2 with
       | .ok (.d v) h3=>match putTk n k v h3 with
         | some h4=>if gd h4 then QK4 gd t tt dk dv n zs h4 else .bad
         | none=>.bad
       | _=>.bad
     | _=>.bad
   | .ok false h1=>if gd h1 then QK4 gd t tt dk dv n zs h1 else .bad
   | _=>.bad
open Classical in
def dDc (di:DI) (i:Nat) (tt:DT) (dk dv:DE):DE:=fun s h=>(di s h).bnd fun it h1 =>
 if it.guard (h1++[.dit [] []]) then (QK4 it.guard (fun z=>(s.set i none).set i (some z)) tt dk dv h1.length it.items (h1++[.dit [] []])).bnd fun _ h2=>.ok (.r h1.length) h2 else .bad
end
end Zl
end
section
namespace Zl
open PySem PySem.Spec PyProof.Rows L2
open TL
section
variable {QZ:Z->ZH->Prop} {QB:Bool->ZH->Prop} {QU:Unit->ZH->Prop} {E:ZX->ZH->Prop} {K:KS} {s:ZS} {h:ZH} {da db dc:DE} {tt:DT}
end
end Zl
end
section
namespace Zl
open PySem PySem.Spec PyProof.Rows L2
open TL
def CalD (P:Program) (w:World) (g:G) (mg:Str->Option Value) (base:Heap) (k:Nat) (x:Str) (ps:List Str) (M:Sem):Prop:=∃ f fd,mg x=some (.ref f)/\FnTd P w g.K mg base g k f fd ps M
theorem CalD.mono {P:Program} {w:World} {g:G} {mg:Str->Option Value} {base:Heap} {k j:Nat} {x:Str} {ps:List Str} {M:Sem} (h:CalD P w g mg base k x ps M) (l:k<=j):CalD P w g mg base j x ps M :=
 let ⟨f,fd,m,T⟩:=h; ⟨f,fd,m,T.mono l⟩
section
variable {g:G} {F:Fr} {X:Cx} {W:WX} {e o:Expr} {es:List Expr} {da db:DE} {a b:Expr} {d:DA} {pos apos cpos p:Pos}
end
section
variable {h:ZH}
end
end Zl
end
section
namespace Zl
open PySem PySem.Spec PyProof.Rows L2
open TL
section
variable {g:G} {F:Fr} {X:Cx} {W:WX} {a b e o:Expr} {es:List Expr} {da db:DE} {d:DA} {pos p:Pos}
end
end Zl
end
section
namespace Zl
open PySem PySem.Spec PyProof.Rows L2
open TL
structure ItFn (P:Program) (w:World) (K:UZ9) (mg:Str->Option Value) (base:Heap) (k:Nat) (f:Addr) (fd:FuncData) (fld:Str):Prop where
 run:∀ (A:Around) (outer:List Env) (s:Shared) (H:Hp) (args:Args) (o C dx l:Addr) (fs:List (Str × V)) (ys:List V),Room k A->Env0 P w K mg base A outer s H->BindsTo s fd args [("self",.ref o)] ->
   H o=some (.ins C dx fs)->L2.Cls K C->L2.NoAttr K C fld->fs.lookup fld=some (.ref l)->SqL K H l ys ->
   codeAny (model P w) A (.call (.ref f) args) (CR (L2.CX P w) outer P w H s (fun v H'=>∃ it,v = .ref it/\s.heap.objs.size<=it/\H it=none/\H'=upd H it (ItO l it 0)) (fun _ _ _=>False)) s
theorem ItFn.mono {P:Program} {w:World} {K:UZ9} {mg:Str->Option Value} {base:Heap} {k j:Nat} {f:Addr} {fd:FuncData} {fld:Str} (h:ItFn P w K mg base k f fd fld) (l:k<=j):ItFn P w K mg base j f fd fld :=
 ⟨fun A outer s H args o C dx li fs ys hr=>h.run A outer s H args o C dx li fs ys (hr.mono l)⟩
def spLenL (K:UZ9) (f:Str):Sp:=fun vs H Q _=>∃ o C dx fs l ys,vs=[.ref o]/\H o=some (.ins C dx fs)/\L2.Cls K C/\L2.NoAttr K C f/\fs.lookup f=some (.ref l)/\SqL K H l ys/\Q (.int (ys.length:Nat)) H
structure ItC2 (K:UZ9) (C fi:Addr):Prop where
 it:PySem.W.findIn K (.ref C) "__iter__" = some (some (.ref fi))
 itF:PySem.W.isFn K (.ref fi)=true
section
variable {X:Cx} {pins:List (Addr × Obj)} {σ:L2.St} {H:Hp} {s:Shared}
section
variable {X:Cx} {pins:List (Addr × Obj)} {σ:L2.St} {H H0:Hp} {s:Shared} {q it l:Addr} {ys:List V}
structure LenC (K:UZ9) (C fl:Addr):Prop where
 at_:PySem.W.findIn K (.ref C) "__len__" = some (some (.ref fl))
 fn:PySem.W.isFn K (.ref fl)=true
end
section
variable {X:Cx}
end
def IterL (P:Program) (w:World) (K:UZ9) (mg:Str->Option Value) (base:Heap) (g:G) (k:Nat) (c f:Nat):Prop :=
 ∃ fi fd,ItC2 K (g.cad c) fi/\ItFn P w K mg base k fi fd (fnm f)/\Binds K fd ["self"] []
theorem IterL.mono {P:Program} {w:World} {K:UZ9} {mg:Str->Option Value} {base:Heap} {g:G} {k j c f:Nat} (h:IterL P w K mg base g k c f) (l:k<=j):IterL P w K mg base g j c f :=
 let ⟨fi,fd,a,b,d⟩:=h; ⟨fi,fd,a,b.mono l,d⟩
section
variable {g:G} {F:Fr} {W:WX} {e:Expr} {da:DE} {d:DA} {p pos:Pos}
def ListC (P:Program) (w:World) (K:UZ9) (mg:Str->Option Value) (base:Heap) (g:G) (k:Nat) (c f:Nat):Prop :=
 ∃ fi fdI fl fdL,ItC2 K (g.cad c) fi/\LenC K (g.cad c) fl/\ItFn P w K mg base k fi fdI (fnm f)/\Binds K fdI ["self"] []/\FnOk P w K mg base (L2.CX P w) k fl fdL ["self"] (spLenL K (fnm f))/\Binds K fdL ["self"] []
theorem ListC.mono {P:Program} {w:World} {K:UZ9} {mg:Str->Option Value} {base:Heap} {g:G} {k j c f:Nat} (h:ListC P w K mg base g k c f) (l:k<=j):ListC P w K mg base g j c f :=
 let ⟨fi,fdI,fl,fdL,a,b,d,e,x,y⟩:=h; ⟨fi,fdI,fl,fdL,a,b,d.mono l,e,x.mono l,y⟩
end
end
end Zl
end
section
namespace Zl
open PySem PySem.Spec PyProof.Rows L2
open TL
section
variable {g:G} {F:Fr} {X:Cx} {W:WX} {e:Expr} {d:DA} {p pos:Pos}
end
section
variable {g:G} {F:Fr} {X:Cx} {W:WX}
end
section
variable {QZ:Z->ZH->Prop} {E:ZX->ZH->Prop} {s:ZS} {h:ZH}
variable {da db:DE}
end
end Zl
end
section
namespace Zl
open PySem PySem.Spec PyProof.Rows L2 GenW
inductive OutW where
 | nx (ys:List D) (s:ZS) (h:ZH)
 | exc (x:ZX) (h:ZH)
 | bad
abbrev DW:=List D->ZS->ZH->OutW
section
variable {g:G} {F:Fr} {X:Cx} {E:XK} {st:Stmt} {sts:List Stmt} {e:Expr} {de:DE} {d:DS} {dy dy2:DW} {pos yp:Pos}
def PostW (g:G) (F:Fr) (E:XK) (ρ:List Addr) (zh:ZH) (H:Hp) (out:OutW) (C:List V->L2.St->Hp->Prop):Prop:=match out with
 | .nx ys s h=>∀ ρ' σ' H' vs,Ext F ρ zh H ρ' h H'->RelH g F ρ' h H'->RelS g (UO F ρ' h) H' ρ' s σ'->RDs g (UO F ρ' h) H' ys vs->C vs σ' H'
 | .exc x h=>∀ ρ' cls dx H',Ext F ρ zh H ρ' h H'->RelH g F ρ' h H'->RX g (UO F ρ' h) H' x cls dx->E cls dx H'
 | .bad=>False
theorem PostW.shift {ρ ρ1:List Addr} {zh zh1:ZH} {H H1:Hp} {C:List V->L2.St->Hp->Prop} (e:Ext F ρ zh H ρ1 zh1 H1) {out:OutW} (p:PostW g F E ρ zh H out C):PostW g F E ρ1 zh1 H1 out C:=by
 cases out with
 | nx ys s h=>exact fun ρ' σ' H' vs e'=>p ρ' σ' H' vs (e.trans e')
 | exc x h=>exact fun ρ' cls dx H' e'=>p ρ' cls dx H' (e.trans e')
 | bad=>exact p
open Classical in
def wLoop (gd:ZH->Prop) (t:DG) (b:DW):List Z->DW
 | [],ys,s,h=>.nx ys s h
 | z :: zs,ys,s,h=>match t z s h with
   | .nx s1 h1=>match b ys s1 h1 with
     | .nx ys2 s2 h2=>if gd h2 then wLoop gd t b zs ys2 s2 h2 else .bad
     | .exc x h2=>.exc x h2
     | .bad=>.bad
   | _=>.bad
end
def LstX (o:Out Z):Prop:=(∃ ds h',o = .ok (.d (.lst ds)) h')\/(∃ x h',o = .exc x h')\/o = .bad
def PostG (g:G) (F:Fr) (E:XK) (ρ:List Addr) (zh:ZH) (H:Hp) (out:Out Z) (cont:List V->Hp->Prop):Prop:=match out with
 | .ok z h'=>∃ ds,z = .d (.lst ds) /\ ∀ ρ' H' vs',Ext F ρ zh H ρ' h' H'->RelH g F ρ' h' H'->RDs g (UO F ρ' h') H' ds vs'->cont vs' H'
 | .exc x h'=>∀ ρ' cls dx H',Ext F ρ zh H ρ' h' H'->RelH g F ρ' h' H'->RX g (UO F ρ' h') H' x cls dx->E cls dx H'
 | .bad=>False
def spX (g:G) (M:Sem):SpG:=fun vs H cont E=>∃ F ρ zs zh,RelH g F ρ zh H/\RZs g (UO F ρ zh) H ρ zs vs/\PostG g F E ρ zh H (M zs zh) cont
structure GnTx (P:Program) (w:World) (K:UZ9) (mg:Str->Option Value) (base:Heap) (g:G) (k:Nat) (f:Addr) (fd:FuncData) (ps:List Str) (M:Sem):Prop where
 ok:GFn P w K mg base k f fd ps (spX g M)
 kp:PySem.W.keepIn K (.ref f)=true
 bi:Binds K fd ps []
 lst:∀ zs h,LstX (M zs h)
theorem GnTx.mono {P:Program} {w:World} {K:UZ9} {mg:Str->Option Value} {base:Heap} {g:G} {j k:Nat} {f:Addr} {fd:FuncData} {ps:List Str} {M:Sem} (T:GnTx P w K mg base g k f fd ps M) (h:k<=j):GnTx P w K mg base g j f fd ps M:=by
 refine ⟨⟨T.ok.len,fun A outer s H args us vs Q E hr e0 hb r q=>?_⟩,T.kp,T.bi,T.lst⟩;refine codeAny_mono (T.ok.run A outer s H args us vs Q E (hr.mono h) e0 hb r q) fun r s' hq=>?_;cases r with
 | error e=>exact hq
 | ok fl =>
   cases fl with
   | ret u =>
     obtain ⟨a,gg,c,h1,h2,h3,h4,h5,h6,h7,h8,h9,h10⟩:=hq;exact ⟨a,gg,c,h1,h2,h3,h4,h5,h6,h7,h8,h9,fun A S s2 hr2=>h10 A S s2 (hr2.mono h)⟩
   | next=>exact hq
   | brk=>exact hq
   | cont=>exact hq
def GenEx (P:Program) (w:World) (K:UZ9) (mg:Str->Option Value) (base:Heap) (g:G) (k:Nat) (m:Str) (mt:Nat->Option Sem):Prop :=
 ∀ c M,g.has c=true->mt c=some M -> ∃ f fd ps,Meth g.K (g.cad c) m f/\GnTx P w K mg base g k f fd ps M /\ ∀ x∈X0 c,fnm x≠m
theorem GenEx.mono {P:Program} {w:World} {K:UZ9} {mg:Str->Option Value} {base:Heap} {g:G} {j k:Nat} {m:Str} {mt:Nat->Option Sem} (T:GenEx P w K mg base g k m mt) (h:k<=j):GenEx P w K mg base g j m mt:=fun c M h1 h2 =>
 let ⟨f,fd,ps,a,b,d⟩:=T c M h1 h2; ⟨f,fd,ps,a,b.mono h,d⟩
section
variable {g:G} {F:Fr} {X:Cx} {W:WX} {o:Expr} {da:DE} {apos pos pos2 p:Pos} {k:Nat} {m:Str} {mt:Nat->Option Sem} {pl:PySem.Sem Bool}
end
end Zl
end
section
namespace Zl
open PySem PySem.Spec PyProof.Rows L2
def C1:DS:=O4 [0] (L0 (QD5 (Xb9 .int (Q7 0)) (QM7 (Xb9 .bl (Q7 0)))))
def M_law_is_number:Sem:=M9 1 1 C1
def Qj1:DS:=O4 [0,1,2,3] (U9 (K7 (Y1 H7 (Y2 opInt (Q4 (Y1 opAdd (Y1 opAdd (Y1 opMulS (Q7 0) (dC (.int 48271))) (Y1 opMulS (Q7 1) (dC (.int 69621)))) (dC (.int 11))) (dNil))) (dC (.int 65537))) (Z8 2)) (U9 (K7 (Y1 H7 (Y2 opInt (Q4 (Y1 opAdd (Y1 opAdd (Y1 opMulS (Q7 2) (Q7 2)) (Y1 opMulS (Q7 1) (dC (.int 7919)))) (dC (.int 3))) (dNil))) (dC (.int 64007))) (Z8 3)) (L0 (Y1 H7 (Y2 opInt (Q4 (Y1 opAdd (Y1 opMulS (Q7 3) (Q7 3)) (Q7 2)) (dNil))) (dC (.int 99991))))))
def M_law_mixed:Sem:=M9 2 4 Qj1
def Qm1:DS:=O4 [0,1,2,3,4] (U9 (K7 (Qz2 (dNil)) (Z8 1)) (U9 (Qk2 (K0 (Q4 (Y2 opLen (Q4 (Q7 0) (dNil))) (dNil))) (Z8 2) (O4 [2,3,4] (U9 (K7 (Y2 opAbs (Q4 (Y2 opInt (Q4 (Y1 opIx (Q7 0) (Q7 2)) (dNil))) (dNil))) (Z8 3)) (dIf (V9 QR0 (Q7 3) (Y1 QM6 (dC (.int 10)) (dC (.int 18)))) (Qk2 (K0 (Q4 (dC (.int 8)) (dNil))) (Z8 4) (O4 [4] (D4 (P6 isLst opAppend (Q7 1) (Q4 (X7 M_law_mixed (Q4 (Q7 3) (Q4 (Y1 opAdd (Y1 opMulS (dC (.int 8)) (Q7 2)) (Q7 4)) (dNil)))) (dNil)))))) (Qk2 (K0 (Q4 (dC (.int 60)) (dNil))) (Z8 4) (O4 [4] (dIf (V9 opGt (Q7 3) (dC (.int 0))) (U9 (D4 (P6 isLst opAppend (Q7 1) (Q4 (Y1 H7 (Y2 opInt (Q4 (Q7 3) (dNil))) (dC (.int 1000))) (dNil)))) (K7 (Y1 QM5 (Q7 3) (dC (.int 1000))) (Z8 3))) (dSkip)))))))) (U9 (D4 (P6 isLst opReverse (Q7 1) dNil)) (L0 (Q7 1)))))
def M_law_pool:Sem:=M9 1 5 Qm1
def Qc9:DS:=O4 [0,1] (U9 (dIf (V9 (E5 false) (Q7 0) (Qw5 (dNil))) (L0 (dC (.int 0))) (dSkip)) (L0 (Y1 H7 (Y2 opInt (Q4 (P6 isLst opPop (Q7 0) dNil) (dNil))) (Q7 1))))
def M_law_draw:Sem:=M9 2 2 Qc9
def Qj2:DS:=O4 [0,1,2,3,4,5,6,7,8,9,10] (U9 (K7 (dC (.str [97,98,99,100,101,102,103,104,105,106,107,108,109,110,111,112,113,114,115,116,117,118,119,120,121,122])) (Z8 2)) (U9 (K7 (X7 M_law_draw (Q4 (Q7 0) (Q4 (dC (.int 6)) (dNil)))) (Z8 3)) (U9 (dIf (V9 (E5 false) (Q7 3) (dC (.int 4))) (L0 (dSl (Qw5 (Q4 (dC (.str [114,101,97,100])) (Q4 (dC (.str [97,115])) (Q4 (dC (.str [119,114,105,116,101])) (Q4 (dC (.str [98,121])) (Q4 (dC (.str [111,102])) (Q4 (dC (.str [112,114,111,103,114,97,109])) (dNil)))))))) none (some (Q7 1)))) (dSkip)) (U9 (K7 (X7 M_law_draw (Q4 (Q7 0) (Q4 (dC (.int 26)) (dNil)))) (Z8 4)) (U9 (K7 (Y1 opIx (Qw5 (Q4 (dC (.int 1)) (Q4 (dC (.int 25)) (Q4 (dC (.int 7)) (dNil))))) (X7 M_law_draw (Q4 (Q7 0) (Q4 (dC (.int 3)) (dNil))))) (Z8 5)) (U9 (K7 (dC (.str [])) (Z8 6)) (U9 (Qk2 (K0 (Q4 (X7 M_law_draw (Q4 (Q7 0) (Q4 (dC (.int 4)) (dNil)))) (dNil))) (Z8 7) (O4 [7] (K7 (Y1 opAdd (Q7 6) (Y1 opIx (Q7 2) (X7 M_law_draw (Q4 (Q7 0) (Q4 (dC (.int 26)) (dNil)))))) (Z8 6)))) (U9 (K7 (dC (.str [])) (Z8 8)) (U9 (Qk2 (K0 (Q4 (X7 M_law_draw (Q4 (Q7 0) (Q4 (dC (.int 4)) (dNil)))) (dNil))) (Z8 7) (O4 [7] (K7 (Y1 opAdd (Q7 8) (Y1 opIx (Q7 2) (X7 M_law_draw (Q4 (Q7 0) (Q4 (dC (.int 26)) (dNil)))))) (Z8 8)))) (U9 (K7 (Qz2 (dNil)) (Z8 9)) (U9 (Qk2 (K0 (Q4 (Q7 1) (dNil))) (Z8 7) (O4 [7,10] (U9 (K7 (Y1 opAdd (Y1 opAdd (Q7 6) (Y1 opIx (Q7 2) (Y1 H7 (Y2 opInt (Q4 (Y1 opAdd (Q7 4) (Y1 opMulS (Q7 5) (Q7 7))) (dNil))) (dC (.int 26))))) (Q7 8)) (Z8 10)) (U9 (dIf (V9 (E5 false) (Q7 3) (dC (.int 2))) (K7 (Y1 opAdd (Q7 10) (Y1 opMulS (Y1 opIx (Q7 2) (Q7 7)) (Y1 H7 (Q7 7) (dC (.int 2))))) (Z8 10)) (dSkip)) (D4 (P6 isLst opAppend (Q7 9) (Q4 (Q7 10) (dNil)))))))) (Xb7 9 (L0 (Q7 9))))))))))))))
def M_law_names:Sem:=M9 2 11 Qj2
def Qe0:DS:=O4 [0,1] (L0 (QD5 (P9 Qw3 Qw3 (dC (.int 1)) (Y2 opLen (Q4 (Q7 0) (dNil))) (dC (.int 8))) (Y2 opAll (Q4 (dLc .frz (Qx6 (Q7 0)) 1 tYesZ (Y1 (QC0 false) (Q7 1) (dC (.str [97,98,99,100,101,102,103,104,105,106,107,108,109,110,111,112,113,114,115,116,117,118,119,120,121,122])))) (dNil)))))
def M_valid_name:Sem:=M9 1 2 Qe0
def Qb0:DS:=O4 [0,1] (U9 (dIf (dOr (Qt0 (E6 (P9 Qw3 Qw3 (dC (.int 1)) (Y2 opLen (Q4 (Q7 0) (dNil))) (dC (.int 3))))) (V9 QR0 (Y2 opLenSet (Q4 (Q7 0) dNil)) (Y2 opLen (Q4 (Q7 0) (dNil))))) (Qq7 X3) (dSkip)) (dIf (Qt0 (Qf0 (Y2 opAll (Q4 (dLc .frz (Qx6 (Q7 0)) 1 tYesZ (X7 M_valid_name (Q4 (Q7 1) (dNil)))) (dNil))))) (Qq7 X3) (dSkip)))
def M_check_names:Sem:=M9 1 2 Qb0
def Qe1:DS:=O4 [0] (dIf (Qt0 (E6 (P9 Qw3 Qw3 (dC (.int 1)) (Q7 0) (dC (.int 3))))) (Qq7 X3) (dSkip))
def M_check_size:Sem:=M9 1 1 Qe1
def Qe2:DS:=O4 [0,1,2] (U9 (D4 (X7 M_check_names (Q4 (Qr8 (Q7 1)) (dNil)))) (U9 (D4 (X7 M_check_size (Q4 (Q7 2) (dNil)))) (U9 (L7 f_names (Y2 opTupleN (Q4 (Q7 1) (dNil))) (Q7 0)) (U9 (L7 f_size (Q7 2) (Q7 0)) (L7 f_current (Y1 (QI7 true) (Qw5 (Q4 (dC (.int 0)) (dNil))) (Y2 opLen (Q4 (Qr8 (Qq2 f_names (Q7 0))) (dNil)))) (Q7 0))))))
def M_Cells_init:Sem:=M9 3 3 Qe2
def L9:DS:=O4 [0,1,2,3] (U9 (dIf (V9 (E5 true) (Y2 opLen (Q4 (Q7 1) (dNil))) (Y2 opLen (Q4 (Qr8 (Qq2 f_names (Q7 0))) (dNil)))) (Qc6 cInvalidState (Q4 (dC .non) (dNil))) (dSkip)) (U9 (Qk2 (iZip (Q4 (Qr8 (Qq2 f_names (Q7 0))) (Q4 (Q7 1) (dNil)))) (Qu5 2 3) (O4 [2,3] (dIf (Qt0 (E6 (P9 Qw3 QR0 (dC (.int 0)) (Q7 3) (Qq2 f_size (Q7 0))))) (QI8 cInvalidState cOutOfRange (Q4 (Q7 2) (dNil)) (Q4 (Q7 2) (Q4 (Q7 3) (dNil)))) (dSkip)))) (L0 (Y2 (I8 true) (Q4 (Q7 1) (dNil))))))
def M_Cells_checked:Sem:=M9 2 4 L9
def O0:DS:=O4 [0] (L0 (Y2 opTuple (Q4 (Qq2 f_current (Q7 0)) (dNil))))
def M_Cells_contents_get:Sem:=M9 1 1 O0
def mtSelfCells_checked:Nat->Option Sem:=fun c=>if c=X2 then some M_Cells_checked else none
def O1:DS:=O4 [0,1] (L7 f_current (S7 mtSelfCells_checked (Q7 0) (Q4 (Q7 1) (dNil))) (Q7 0))
def M_Cells_contents_set:Sem:=M9 2 2 O1
def mtS_contents:Nat->Option Sem:=fun c=>if c=X2 then some M_Cells_contents_set else none
def Qb1:DS:=O4 [0,1] (Qg9 mtS_contents (Q7 1) (Q7 0))
def M_Cells_reset:Sem:=M9 2 2 Qb1
def Qj3:DS:=O4 [0,1,2,3] (U9 (K7 (X7 M_law_draw (Q4 (Q7 0) (Q4 (dC (.int 8)) (dNil)))) (Z8 2)) (U9 (K7 (Y1 opAdd (Y1 opMulS (X7 M_law_draw (Q4 (Q7 0) (Q4 (dC (.int 1000)) (dNil)))) (dC (.int 1000))) (X7 M_law_draw (Q4 (Q7 0) (Q4 (dC (.int 1000)) (dNil))))) (Z8 3)) (U9 (dIf (V9 (E5 false) (Q7 2) (dC (.int 4))) (L0 (dC (.int (-1)))) (dSkip)) (U9 (dIf (V9 (E5 false) (Q7 2) (dC (.int 5))) (L0 (Q7 1)) (dSkip)) (U9 (dIf (V9 (E5 false) (Q7 2) (dC (.int 6))) (L0 (Y1 opAdd (Q7 1) (Q7 3))) (dSkip)) (U9 (dIf (V9 (E5 false) (Q7 2) (dC (.int 7))) (L0 (Y1 QT9 (dC (.int (-1))) (Q7 3))) (dSkip)) (L0 (Y1 H7 (Y2 opInt (Q4 (Q7 3) (dNil))) (Q7 1)))))))))
def M_law_value:Sem:=M9 2 4 Qj3
def Qm2:DS:=O4 [0,1,2] (U9 (dIf (dOr (Qt0 (Qf0 (Xb9 .tup (Q7 0)))) (V9 (E5 true) (Y2 opLen (Q4 (Q7 0) (dNil))) (Y2 opLen (Q4 (Q7 1) (dNil))))) (L0 (dC (.bl false))) (dSkip)) (U9 (Qk2 (K0 (Q4 (Y2 opLen (Q4 (Q7 1) (dNil))) (dNil))) (Z8 2) (O4 [2] (dIf (dOr (Qt0 (Qf0 (X7 M_law_is_number (Q4 (Y1 opIx (Q7 0) (Q7 2)) (dNil))))) (V9 (E5 true) (Y1 opIx (Q7 0) (Q7 2)) (Y1 opIx (Q7 1) (Q7 2)))) (L0 (dC (.bl false))) (dSkip)))) (L0 (dC (.bl true)))))
def M_law_same:Sem:=M9 2 3 Qm2
def Qb2:DS:=O4 [0,1,2,3,4,5] (U9 (K7 (Qw5 (Q4 (Y1 opAdd (Y1 opIx (Q7 1) (dC (.int 0))) (dC (.str [113]))) (Q4 (dSl (Y1 opIx (Q7 1) (dC (.int 0))) (some (dC (.int 1))) none) (Q4 (Y1 opAdd (Y1 opIx (Q7 1) (dC (.int (-1)))) (dC (.str [122]))) (Q4 (dC (.str [])) (Q4 (dC (.str [65])) (Q4 (P6 isStr opUpper (Y1 opIx (Q7 1) (dC (.int 0))) dNil) (dNil)))))))) (Z8 2)) (U9 (K7 (X7 M_law_draw (Q4 (Q7 0) (Q4 (Y2 opLen (Q4 (Q7 2) (dNil))) (dNil)))) (Z8 3)) (U9 (Qk2 (K0 (Q4 (Y2 opLen (Q4 (Q7 2) (dNil))) (dNil))) (Z8 4) (O4 [4,5] (U9 (K7 (Y1 opIx (Q7 2) (Y1 H7 (Y2 opInt (Q4 (Y1 opAdd (Q7 3) (Q7 4)) (dNil))) (Y2 opLen (Q4 (Q7 2) (dNil))))) (Z8 5)) (dIf (V9 (QC0 true) (Q7 5) (Q7 1)) (L0 (Q7 5)) (dSkip))))) (L0 (dC (.str [65]))))))
def M_law_strange:Sem:=M9 2 6 Qb2
end Zl
end
section
namespace L2
open PySem PySem.Spec PyProof.Rows PySem.Calls
def QK5 (P:Program) (w:World) (A:Around) (E:Value->Shared->Prop) (env:Env) (x fx:Addr) (Q:Flow->Shared->Prop) (e:Value) (s:Shared):Prop :=
 wpAny (model P w) A (setFlight e none) (fun _ s1=>wpAny (model P w) A (typeOf e) (fun c s2=>wpAny (model P w) A (tracebackOf e) (fun tb s3=>e≠byPass/\codeAny (model P w) (A.mark (some e)) (.call (.ref fx) ⟨[.ref x,c,e,tb],[]⟩)
   (fun r s4=>r = .ok (.ret .none)/\wpAny (model P w) A (passOn "with" e env) Q E s4) s3) E s2) E s1) E s
section
variable {prog:Program} {w:World} {A:Around} {E:Value->Shared->Prop} {s:Shared} {env:Env} {K:UZ9} {x C fe fx:Addr} {ox:Obj} {od:Option Obj} {pos:Pos}
open PySem.W in
theorem QK6 {bdy:Sem Flow} {Q:Flow->Shared->Prop} (X:K.In s.heap) (I:InstAt s.heap x ox C od) (he:findIn K (.ref C) "__enter__" = some (some (.ref fe))) (hfe:isFn K (.ref fe)=true) (hx:findIn K (.ref C) "__exit__" = some (some (.ref fx))) (hfx:isFn K (.ref fx)=true)
   (h : wpAny (model prog w) A (call (.ref fe) [.ref x]) (fun v s₂=>wpAny (model prog w) A bdy (fun f s₄=>wpAny (model prog w) A (call (.ref fx) [.ref x,.none,.none,.none]) (fun _ s₅=>Q f s₅) E s₄)
     (fun e s₄=>wpAny (model prog w) A (noteFrame e env) (fun _ s₅=>QK5 prog w A E env x fx Q e s₅) (fun _ _=>False) s₄) s₂) E s) :
   wpAny (model prog w) A (withItem false pos env (pure (.ref x)) none bdy) Q E s:=by
 obtain ⟨cd,hcd,ae⟩:=kw_along he;obtain ⟨cd',hcd',ax⟩:=kw_along hx;cases hcd.symm.trans hcd';obtain ⟨hh,g,d,tt,os⟩:=s;have L1:Looks (model prog w) hh (specialOnItsLine (.ref x) "__enter__") (some (.ref fe),cd.mro):=kw_special X I hcd ae;have L2:Looks (model prog w) hh (specialOnItsLine (.ref x) "__exit__") (some (.ref fx),cd.mro):=kw_special X I hcd ax;have L3:Looks (model prog w) hh (bindSpecial (.ref fe) (.ref x)) (.ref fe,[.ref x]):=bind_fn X _ (beq_iff_eq.mp hfe);have L4:Looks (model prog w) hh (bindSpecial (.ref fx) (.ref x)) (.ref fx,[.ref x]):=bind_fn X _ (beq_iff_eq.mp hfx);have L5:Looks (model prog w) hh (aMethodOfAnotherBuiltinTypeStops (.ref fe) cd.mro) ():=Looks.of_pure rfl;have L6:Looks (model prog w) hh (aMethodOfAnotherBuiltinTypeStops (.ref fx) cd.mro) ():=Looks.of_pure rfl;unfold withItem;refine wpAny_bind (wpAny_pure ?_);refine wpAny_bind (wpAny_standAt ?_);simp only [Bool.false_eq_true,if_false]
 kw_lk
 refine wpAny_mono h (fun v s₂ h₂=>?_) fun _ _ z=>z
 kw_lk
 refine wpAny_attempt (kw_held ?_);show wpAny _ _ bdy _ _ _;refine wpAny_mono h₂ (fun f s₄ h₄=>?_) fun e s₄ h₄=>?_
 . kw_lk
   refine wpAny_mono h₄ (fun _ s₅ h₅=>?_) fun _ _ z=>z
   kw_lk
   exact h₅
 . refine wpAny_bind (wpAny_mono h₄ (fun _ s₅ h₅=>?_) fun _ _ z=>z.elim);unfold QK5 at h₅;refine wpAny_bind (wpAny_mono h₅ (fun _ s₆ h₆=>?_) fun _ _ z=>z);refine wpAny_bind (wpAny_standAt ?_);refine wpAny_holding ?_;refine wpAny_bind (wpAny_mono h₆ (fun c s₇ h₇=>?_) fun _ _ z=>z);refine wpAny_bind (wpAny_mono h₇ (fun tb s₈ h₈=>?_) fun _ _ z=>z);obtain ⟨hb,h₈⟩:=h₈;refine wpAny_bind ?_;unfold withItem.marked;refine wpAny_bind (wpAny_run (codeAny_mono h₈ fun r s₉ hr=>?_) fun q=>hb (Option.some.inj q));obtain ⟨rfl,h₉⟩:=hr;refine wpAny_pure ?_
   first
     | exact h₉
     | (refine wpAny_bind (wpAny_pure ?_); exact h₉)
     | (refine wpAny_bind (wpAny_pure ?_); refine wpAny_bind (wpAny_pure ?_); exact h₉)
end
section
variable {X:Cx}
theorem Inv.without {pins:List (Addr × Obj)} {σ:St} {H:Hp} {s:Shared} {G:Heap} {a b:Addr} (I:Inv X pins σ H s) (sub:∀ c o,G.get? c=some o->s.heap.get? c=some o) (keep:∀ c o,c≠a->c≠b->s.heap.get? c=some o->G.get? c=some o)
   (ha:∃ oa vs,s.heap.get? a=some oa/\oa.data = .fields vs) (hb:∃ ob vs,s.heap.get? b=some ob/\ob.data = .fields vs) (na:H a=none) (nb:H b=none) (h0:∀ c o,X.s_0.heap.get? c=some o->c≠a/\c≠b)
   (hp:∀ p∈X.pn++pins,p.1≠a/\p.1≠b):Inv X pins σ H { s with heap:=G }:=by
 have far:∀ {c:Addr} {o:Obj},s.heap.get? c=some o->(∀ vs,o.data ≠ .fields vs)->c≠a/\c≠b:=fun {c o} e n=>by
   obtain ⟨oa,va,ea,da⟩:=ha;obtain ⟨ob,vb,eb,db⟩:=hb;refine ⟨fun z=>?_,fun z=>?_⟩
   . rw [z,ea] at e; cases e; exact n va da
   . rw [z,eb] at e; cases e; exact n vb db
 have nsK:∀ c (m:Str->Option Value),s.heap.Ns c m->G.Ns c m:=fun c m ⟨o,es,ep,e,d,r⟩=>by
   obtain ⟨h1,h2⟩:=far e fun vs z=>by rw [d] at z; cases z
   exact ⟨o,es,ep,keep c o h1 h2 e,d,r⟩
 have clK:∀ c (v:Option Value),s.heap.IsCell c v->G.IsCell c v:=fun c v ⟨o,e,d⟩=>by
   obtain ⟨h1,h2⟩:=far e fun vs z=>by rw [d] at z; cases z
   exact ⟨o,keep c o h1 h2 e,d⟩
 have trK:∀ c u,H c=some u->c≠a/\c≠b:=fun c u e=>⟨fun z=>(by rw [z,na] at e; cases e),fun z=>(by rw [z,nb] at e; cases e)⟩
 refine ⟨I.ok,I.os,I.bare,⟨fun c o e n h1 h2=>keep c o (h0 c o e).1 (h0 c o e).2 (I.base.keep c o e n h1 h2),fun c o e n h1 h2=>let ⟨sl,q⟩:=I.base.slot c o e n h1 h2; ⟨sl,keep c _ (h0 c o e).1 (h0 c o e).2 q⟩,I.base.free,
   fun c o e h2=>let ⟨o',q⟩:=I.base.there c o e h2; ⟨o',keep c _ (h0 c o e).1 (h0 c o e).2 q⟩,I.base.tups,I.base.frzs,I.base.tbls⟩,?_,fun x c e=>let ⟨v,z⟩:=I.cell x c e; ⟨v,clK c v z⟩,I.free,I.freeC,fun p hq=>?_,fun c u e=>?_,I.len⟩
 . obtain ⟨m,hn,hl⟩:=I.loc;refine ⟨m,nsK _ m hn,fun i x v e1 e2 e3=>?_⟩;obtain ⟨u,r,l⟩:=hl i x v e1 e2 e3;exact ⟨u,r,l.imp id fun ⟨k,c,ec,z⟩=>⟨k,c,ec,clK c _ z⟩⟩
 . obtain ⟨e,n,ne,nf,d⟩:=I.pin p hq;exact ⟨keep _ _ (hp p hq).1 (hp p hq).2 e,n,ne,nf,d⟩
 . refine (I.hok c u e).stay (fun d o hd q=>?_) (fun _ q=>q) fun _ _ q=>q;rcases hd with z | z
   . rw [z] at q ⊢;exact keep c o (trK c u e).1 (trK c u e).2 q
   . exact keep d o (trK d _ z).1 (trK d _ z).2 q
theorem QP3 {Wb Wout:WX} {xe:Value->Shared->Prop} {pins:List (Addr × Obj)} {D:Ends} {x fx:Addr} {u:Value} {s':Shared} (hs:X.stack=X.env::X.outer) (hf:X.env.frame=some X.env.locals) (hex:X.ex=[]) (ok:X.Ok) (tk:Takes X Wout)
   (hcall:∀ (a T:Addr) (oe oT:Obj) (σ:St) (H:Hp) (cls:Value) (d:Option Addr) (s3:Shared) (tb:Value),Zc cls d oe->Inv (X.suite a ((a,oe)::(T,oT)::(X.pn++pins))) [] σ H s3->Wb cls d σ H->(tb = .ref T\/tb = .none) ->
     codeAny (model X.prog X.w) (X.suite a ((a,oe)::(T,oT)::(X.pn++pins))).A (.call (.ref fx) ⟨[.ref x,cls,.ref a,tb],[]⟩) (fun r s6=>r = .ok (.ret .none) /\ ∃ H6,Inv (X.suite a ((a,oe)::(T,oT)::(X.pn++pins))) [] σ H6 s6/\Wout cls d σ H6) s3)
   (xx:XE (X.tr (X.pn++pins) xe) Wb u s') :
   wpAny (model X.prog X.w) X.A (noteFrame u X.env) (fun _ s₂=>QK5 X.prog X.w X.A X.xe X.env x fx (SP X pins D) u s₂) (fun _ _=>False) s':=by
 have hfr:X.A.frames=some (X.env::X.outer):=by rw [ok.frames,hs]
 obtain ⟨a,B,sI,pins',σ',H',cls,d,rfl,J',nb,up,sky,na,os,ag,hw⟩:=xx;have J:Inv X pins σ' H' sI:=J'.ofTry ok;have sky':Sky B (X.env::X.outer) a (Zc cls d) X.env.locals s'.heap:=by rw [<- hs]; exact sky
 have fin : ∀ h1,HandSPX.HeldZ B (X.env::X.outer) a (Zc cls d) X.env.locals h1->s'.heap.UpToSlots h1->QK5 X.prog X.w X.A X.xe X.env x fx (SP X pins D) (.ref a) { s' with heap:=h1 }:=fun h1 hh1 up1=>by
   refine HandSPX.landsZ hh1 fun h3 fl3 up3=>?_;have J3:Inv X pins σ' H' { s' with heap:=h3 }:=J.landed nb fl3.1 ((up.trans up1).trans up3) os ag;obtain ⟨k1,k2,k3,oe,vs,T,oT,ts,he3,hz,hd,hv1,hnT,hTe,hT,hdT,ht3⟩:=id fl3;have nT:H' T=none:=(J.inGround nb).gone hnT
   have notFr:∀ (b:Addr) (o:Obj) (fv:Array Value),h3.get? b=some o->o.data = .fields fv->b∉frs (X.env::X.outer):=fun b o fv e dd hm=>by
     obtain ⟨_,o',e',hnf⟩:=k3.mem hm;cases e.symm.trans e';exact hnf _ dd
   have locF:X.env.locals∈frs (X.env::X.outer):=List.mem_filterMap.mpr ⟨X.env,Xr1,hf⟩
   have fsF:∀ b,b∈X.fs->b∈frs (X.env::X.outer):=fun b hm=>by
     obtain ⟨e,he,q⟩:=List.mem_filterMap.mp hm;exact List.mem_filterMap.mpr ⟨e,Xq9 _ he,q⟩
   have fa:=notFr a oe vs he3 hd;have fT:=notFr T oT ts hT hdT
   have pinF:∀ {b:Addr} {o:Obj} {fv:Array Value},h3.get? b=some o->o.data = .fields fv->H' b=none->b∉frs (X.env::X.outer)->h3.get? b=some o/\H' b=none/\b≠X.env.locals/\b∉X.fs /\ ∀ v,o.data ≠ .cell v:=fun {b o fv} e dd nn ff =>
     ⟨e,nn,fun z=>ff (by rw [z]; exact locF),fun z=>ff (fsF _ z),fun v z=>by rw [dd] at z; cases z⟩
   have S3:Inv (X.suite a ((a,oe)::(T,oT)::(X.pn++pins))) [] σ' H' { s' with heap:=h3 } :=
     ⟨J3.ok.suite _ _,J3.os,J3.bare,J3.base,J3.loc,J3.cell,J3.free,J3.freeC,fun p hp=>by
       rw [List.append_nil] at hp;rcases List.mem_cons.mp hp with z | hp
       . rw [z]; exact pinF he3 hd na fa
       . rcases List.mem_cons.mp hp with z | hp
         . rw [z]; exact pinF hT hdT nT fT
         . exact J3.pin p hp,J3.hok,J3.len⟩
   refine wpAny_typeOf_ref (o:=oe) he3 ?_;rw [hz.1]
   have tail:∀ tb:Value,(tb = .ref T\/tb = .none)->Value.ref a≠byPass/\codeAny (model X.prog X.w) (X.A.mark (some (.ref a))) (.call (.ref fx) ⟨[.ref x,cls,.ref a,tb],[]⟩)
       (fun r s4=>r = .ok (.ret .none)/\wpAny (model X.prog X.w) X.A (passOn "with" (.ref a) X.env) (SP X pins D) X.xe s4) { s' with heap:=h3 }:=fun tb htb=>by
     refine ⟨ref_ne_byPass a,codeAny_mono (hcall a T oe oT σ' H' cls d _ tb hz S3 hw htb) fun r s6 ⟨er,H6,S6,q6⟩=>⟨er,?_⟩⟩;have J6:Inv X pins σ' H6 s6:=⟨ok,S6.os,S6.bare,S6.base,S6.loc,S6.cell,S6.free,S6.freeC,fun p hp=>S6.pin p (List.mem_append_left _ (Xq9 _ (Xq9 _ hp))),S6.hok,S6.len⟩;have pa:=S6.pin (a,oe) (List.mem_append_left _ Xr1);have pT:=S6.pin (T,oT) (List.mem_append_left _ (Xq9 _ Xr1));have ga:s6.heap.get? a=some oe:=pa.1;have gT:s6.heap.get? T=some oT:=pT.1;have na6:H6 a=none:=pa.2.1;have nT6:H6 T=none:=pT.2.1
     have far:∀ b o,sI.heap.get? b=some o->b≠a/\b≠T:=fun b o e=>by
       by_cases hb:b∈frs X.stack
       . rw [hs] at hb;exact ⟨fun z=>fa (by rw [<- z]; exact hb),fun z=>fT (by rw [<- z]; exact hb)⟩
       . have q:=nb b o e hb;exact ⟨fun z=>(by rw [z,k2] at q; cases q),fun z=>(by rw [z,hnT] at q; cases q)⟩
     have far0:∀ b o,X.s_0.heap.get? b=some o->b≠a/\b≠T:=fun b o e=>by
       obtain ⟨o',q⟩:=J.base.there b o e (by rw [hex]; simp);exact far b o' q
     have farP:∀ p∈X.pn++pins,p.1≠a/\p.1≠T:=fun p hp=>far p.1 p.2 (J.pin p hp).1;obtain ⟨G,g1,g2⟩:=restrict s6.heap fun b=>!(decide (b=a) || decide (b=T))
     have gIn:∀ b o,G.get? b=some o->s6.heap.get? b=some o/\b≠a/\b≠T:=fun b o e=>by
       cases q:(!(decide (b=a) || decide (b=T))) with
       | false=>rw [g2 b q] at e; cases e
       | true =>
         rw [g1 b q] at e;simp only [Bool.not_eq_true',Bool.or_eq_false_iff,decide_eq_false_iff_not] at q;exact ⟨e,q.1,q.2⟩
     have gOf:∀ b o,b≠a->b≠T->s6.heap.get? b=some o->G.get? b=some o:=fun b o h1 h2 e=>by
       rw [g1 b (by simp [h1,h2])];exact e
     have I6:Inv X pins σ' H6 { s6 with heap:=G }:=J6.without (fun b o e=>(gIn b o e).1) gOf ⟨oe,vs,ga,hd⟩ ⟨oT,ts,gT,hdT⟩ na6 nT6 far0 farP
     have Bno:∀ b,(b=a\/b=T)->(PySem.W.hideAll G (frs X.stack)).get? b=none:=fun b hb=>by
       cases q:(PySem.W.hideAll G (frs X.stack)).get? b with
       | none=>rfl
       | some o =>
         obtain ⟨_,n1,n2⟩:=gIn b o (PySem.W.of_hideAll _ q);rcases hb with z | z
         . exact absurd z n1
         . exact absurd z n2
     have fl6:HandSPX.FlyingZ (PySem.W.hideAll G (frs X.stack)) (X.env::X.outer) a (Zc cls d) s6.heap:=by
       refine ⟨fun b o e=>(gIn b o (PySem.W.of_hideAll _ e)).1,Bno a (.inl rfl),?_,oe,vs,T,oT,ts,ga,hz,hd,hv1,Bno T (.inr rfl),hTe,gT,hdT,ht3⟩;have ff:=funFrames_none (B:=PySem.W.hideAll G (frs X.stack)) J6.stack fun b hb=>PySem.W.hideAll_none _ hb;rw [<- hs];exact ff
     unfold PySem.passOn;refine wpAny_bind (wpAny_field ga hd hv1 ?_);rw [if_neg (show ¬ ((Value.ref T == Value.none)=true) from by simp)]
     have goOn:wpAny (model X.prog X.w) X.A (setFlight (.ref a) X.env.frame) (fun _ s7=>wpAny (model X.prog X.w) X.A (throw (.ref a):Sem Flow) (SP X pins D) X.xe s7) X.xe s6:=by
       rw [hf];refine HandSPX.setFlight_upZ fl6 fun h7 hh7 up7=>wpAny_throw (tk _ _ ?_);refine ⟨a,PySem.W.hideAll G (frs X.stack),{ s6 with heap:=G },pins,σ',H6,cls,d,rfl,I6,fun b o e hb=>PySem.W.hideAll_get _ e hb,?_,.inr (.inr (by rw [<- hs] at hh7; exact hh7)),na6,rfl,J6.bare,q6⟩;exact Heap.UpToSlots.trans (Heap.UpToSlots.of_keeps fun b o e=>(gIn b o e).1) up7
     first
       | exact wpAny_bind (wpAny_pure (wpAny_bind goOn))
       | exact wpAny_bind goOn
   unfold tracebackOf;refine wpAny_bind (wpAny_field he3 hd hv1 ?_);dsimp only;have sz:3<ts.size:=(Array.getElem?_eq_some_iff.mp ht3).1;obtain ⟨t1,ht1⟩:∃ t1,ts[1]? = some t1:=⟨_,Array.getElem?_eq_getElem (show 1<ts.size by omega)⟩;refine wpAny_bind (wpAny_field hT hdT ht1 ?_)
   by_cases z:(t1 == Value.none)=true
   . rw [if_pos z]
     first
       | exact wpAny_pure (tail _ (.inr rfl))
       | exact wpAny_bind (wpAny_pure (tail _ (.inr rfl)))
   . rw [if_neg z]
     first
       | exact wpAny_pure (tail _ (.inl rfl))
       | exact wpAny_bind (wpAny_pure (wpAny_pure (tail _ (.inl rfl))))
       | exact wpAny_bind (wpAny_pure (tail _ (.inl rfl)))
 show wpAny (model X.prog X.w) X.A (noteFrame (.ref a) X.env) _ _ _;rcases sky' with ⟨hB,hn,hl,oe,vs,he0,hz,hd,hv1⟩ | fl | hh
 . exact HandSPX.look_newZ Zc.steady hfr hl hf he0 hB hn hd hv1 hz fin
 . exact HandSPX.looks_onZ Zc.steady hfr hf fl fin
 . exact HandSPX.againZ hf hh.2.2.2 (fin s'.heap hh (Heap.UpToSlots.refl _))
end
end L2
namespace Zl
open PySem PySem.Spec PyProof.Rows L2
def WithC (P:Program) (w:World) (K:UZ9) (mg:Str->Option Value) (base:Heap) (g:G) (k:Nat) (mt:Nat->Option (Sem × Sem)):Prop :=
 ∀ c ME MX,g.has c=true->mt c=some (ME,MX) -> ∃ fe fde pe fx fdx px,Meth g.K (g.cad c) "__enter__" fe/\FnTC P w K mg base g k fe fde pe ME/\Meth g.K (g.cad c) "__exit__" fx/\FnTC P w K mg base g k fx fdx px MX
theorem WithC.mono {P:Program} {w:World} {K:UZ9} {mg:Str->Option Value} {base:Heap} {g:G} {j k:Nat} {mt:Nat->Option (Sem × Sem)} (T:WithC P w K mg base g k mt) (h:k<=j):WithC P w K mg base g j mt:=fun c ME MX h1 h2 =>
 let ⟨fe,fde,pe,fx,fdx,px,a,b,d,e⟩:=T c ME MX h1 h2; ⟨fe,fde,pe,fx,fdx,px,a,b.mono h,d,e.mono h⟩
open Classical in
def Qs3 (MX:Sem) (z:Z) (h:ZH):Out Z:=if ∀ (a b:Addr) (t:Z),((∃ c,t = .e c)\/t = .d .non)->J8 MX [z,.e a,.e b,t] h=J8 MX [z,.d .non,.d .non,.d .non] h then J8 MX [z,.d .non,.d .non,.d .non] h else .bad
def Qj4 (MX:Sem) (z:Z):OutS->OutS
 | .nx s h=>match J8 MX [z,.d .non,.d .non,.d .non] h with
   | .ok (.d .non) h1=>.nx s h1
   | _=>.bad
 | .rt v h=>match J8 MX [z,.d .non,.d .non,.d .non] h with
   | .ok (.d .non) h1=>.rt v h1
   | _=>.bad
 | .exc x s h=>match Qs3 MX z h with
   | .ok (.d .non) h1=>.exc x s h1
   | _=>.bad
 | _=>.bad
def QP4 (mt:Nat->Option (Sem × Sem)) (z:Z) (db:DS) (s:ZS) (h:ZH):OutS:=match Qa4 z h with
 | some c=>match mt c with
   | some (ME,MX)=>match J8 ME [z] h with
     | .ok _ h1=>Qj4 MX z (db s h1)
     | _=>.bad
   | none=>.bad
 | none=>.bad
def QK7 (de:DE) (mt:Nat->Option (Sem × Sem)) (db:DS):DS:=fun s h=>match de s h with
 | .ok z h1=>QP4 mt z db s h1
 | .exc x h1=>.exc x s h1
 | .bad=>.bad
section
variable {g:G} {F:Fr} {X:Cx} {W:WX} {ρ:List Addr} {zh:ZH} {H:Hp} {zs:List Z} {vs:List V}
theorem Qh0 {M:Sem} {k:Nat} {f:Addr} {fd:FuncData} {ps:List Str} {pins:List (Addr × Obj)} {s:Shared} {σ:L2.St} {us:List Value} {h':ZH} {z:Z} (T:FnTC X.prog X.w X.K X.mg X.base g k f fd ps M) (hr:RoomC k X.A) (I:Inv X pins σ H s) (RH:RelH g F ρ zh H) (rz:RZs g (UO F ρ zh) H ρ zs vs) (rv:Vals vs us) (e:J8 M zs zh = .ok z h') :
   codeAny (model X.prog X.w) X.A (.call (.ref f) ⟨us,[]⟩) (fun r s6=>∃ u v ρ' H',r = .ok (.ret u)/\RelV v u/\Inv X pins σ H' s6/\Ext F ρ zh H ρ' h' H'/\RelH g F ρ' h' H'/\RZ g (UO F ρ' h') H' ρ' z v) s:=by
 have q:lowF g M vs H (fun v H'=>∃ ρ',Ext F ρ zh H ρ' h' H'/\RelH g F ρ' h' H'/\RZ g (UO F ρ' h') H' ρ' z v) (fun _ _ _=>False) :=
   B6 (zσ:=[]) (σ:=[]) (W:=fun _ _ _ _=>False) RH rz (by rw [e]; exact fun ρ' v H' e1 e2 e3=>⟨ρ',e1,e2,e3⟩)
 have hl:us.length=ps.length:=by rw [<- rv.length]; exact T.ok.len _ _ _ _ q
 have hb:=T.bi s us I.kIn (by rw [List.append_nil]; exact hl);rw [List.append_nil] at hb;refine codeAny_mono (T.ok.run X.A X.stack s H ⟨us,[]⟩ us vs _ _ hr I.env0 hb rv q) fun r s' hq=>?_;cases r with
 | error e =>
   obtain ⟨_,_,_,_,_,_,_,_,_,_,_,_,z⟩:=hq;exact z.elim
 | ok fl =>
   cases fl with
   | ret u =>
     obtain ⟨v,H',I',r',ρ',e1,e2,e3⟩:=I.after hq;exact ⟨u,v,ρ',H',rfl,r',I',e1,e2,e3⟩
   | next=>exact False.elim hq
   | brk=>exact False.elim hq
   | cont=>exact False.elim hq
theorem rx_ext {ρ1:List Addr} {zh1:ZH} {H1:Hp} {x:ZX} {cls:Value} {d:Option Addr} (e:Ext F ρ zh H ρ1 zh1 H1) (rx:RX g (UO F ρ zh) H x cls d):RX g (UO F ρ1 zh1) H1 x cls d:=by
 obtain ⟨h1,h2,h3⟩:=rx;refine ⟨h1,h2,h3.imp id fun ⟨n,dd,fvs,e1,nu,hd,k,r⟩=>?_⟩;obtain ⟨h4,h5⟩:=e.stb dd _ hd nu;exact ⟨n,dd,fvs,e1,h5,h4,k,RDs.mono e.stb _ _ r⟩
theorem QP5 {MX:Sem} {z zr:Z} {h h1:ZH} (e:Qs3 MX z h = .ok zr h1) (a b:Addr) (t:Z) (ht:(∃ c,t = .e c)\/t = .d .non):J8 MX [z,.e a,.e b,t] h = .ok zr h1:=by
 unfold Qs3 at e
 split at e
 . rename_i hall;rw [hall a b t ht];exact e
 . cases e
theorem z_with {ctx:Expr} {body:List Stmt} {pos:Pos} {k:Nat} {de:DE} {mt:Nat->Option (Sem × Sem)} {db:DS} (hs:X.stack=X.env::X.outer) (hf:X.env.frame=some X.env.locals) (hex:X.ex=[]) (hK:X.K=g.K) (tk:Takes X W) (T:WithC X.prog X.w X.K X.mg X.base g k mt) (hr:RoomC k X.A)
   (he:ZE g F X W ctx de) (hb:∀ (W':WX) (pn:List (Addr × Obj)) (xe:Value->Shared->Prop),Takes (X.tr pn xe) W'->PassesOwn (model X.prog X.w) X.A X.env xe->ZSs g F (X.tr pn xe) W' body db) :
   ZS1 g F X W (.With [⟨ctx,none⟩] body pos) (QK7 de mt db):=by
 refine ⟨fun pins s σ H D I ⟨ρ,zσ,zh,RH,RS,p⟩=>?_⟩;have ok:=I.ok;refine PySem.W.kw_exec0 (thn (he.run pins s σ H (fun v H1=>∃ ρ1 z zh1,Ext F ρ zh H ρ1 zh1 H1/\RelH g F ρ1 zh1 H1/\RZ g (UO F ρ1 zh1) H1 ρ1 z v/\PostS g F W ρ zh H (QP4 mt z db zσ zh1) D) I ⟨ρ,zσ,zh,RH,RS,?_⟩) fun u s1 ⟨x,H1,I1,rx,ρ1,z,zh1,e1,R1,rz,p1⟩=>?_)
 . unfold QK7 at p;cases kd:de zσ zh with
   | bad=>rw [kd] at p; exact p.elim
   | exc x h'=>rw [kd] at p; exact fun ρ' cls dx H' e' r' q'=>p ρ' σ cls dx H' e' r' (RS.mono e') q'
   | ok z zh1=>rw [kd] at p; exact fun ρ1 v H1 e1 R1 rz=>⟨ρ1,z,zh1,e1,R1,rz,p⟩
 unfold QP4 at p1;cases kc:Qa4 z zh1 with
 | none=>rw [kc] at p1; exact p1.elim
 | some c =>
 rw [kc] at p1;dsimp only at p1;cases km:mt c with
 | none=>rw [km] at p1; exact p1.elim
 | some m =>
 obtain ⟨ME,MX⟩:=m;rw [km] at p1;dsimp only at p1;cases kn:J8 ME [z] zh1 with
 | bad=>rw [kn] at p1; exact p1.elim
 | exc x h'=>rw [kn] at p1; exact p1.elim
 | ok zv zh2 =>
 rw [kn] at p1;have p1:PostS g F W ρ zh H (Qj4 MX z (db zσ zh2)) D:=p1;obtain ⟨a,dx,fvs,ex,q,hc',_⟩:=Qc4 R1 rz kc;obtain ⟨fe,fde,pe,fx,fdx,px,me,te,mx,tx⟩:=T c ME MX hc' km;subst ex;obtain rfl:u=Value.ref a:=rx;obtain ⟨mA,O,_,_,_,_⟩:=ins_get I1.hok q;obtain ⟨od,IA,_⟩:=O.look;unfold PySem.W.KwIn;refine QK6 I1.kIn IA (by rw [hK]; exact me.at_) (by rw [hK]; exact me.fn) (by rw [hK]; exact mx.at_) (by rw [hK]; exact mx.fn) ?_;refine wpAny_call (codeAny_mono (Qh0 (zs:=[z]) (vs:=[.ref a]) te hr I1 R1 ⟨_,_,rfl,rz,rfl⟩ (.cons rfl .nil) kn) fun r s2 ⟨u2,v2,ρ2,H2,er,_,I2,e2,R2,_⟩=>?_);subst er;have rz2:=RZ.mono e2.stb e2.pre rz;have e02:=e1.trans e2
 have tk':Takes (X.tr (X.pn++pins) (fun x s₁=>wpAny (model X.prog X.w) X.A (noteFrame x X.env) (fun _ s₅=>QK5 X.prog X.w X.A X.xe X.env a fx (SP X pins D) x s₅) (fun _ _=>False) s₁))
     (fun cls d σ3 H3=>∃ x ρ3 s3 zh3,Ext F ρ zh H ρ3 zh3 H3/\RelH g F ρ3 zh3 H3/\RelS g (UO F ρ3 zh3) H3 ρ3 s3 σ3/\RZ g (UO F ρ3 zh3) H3 ρ3 z (.ref a)/\RX g (UO F ρ3 zh3) H3 x cls d/\PostS g F W ρ zh H (Qj4 MX z (.exc x s3 zh3)) D):=fun u s' xx=>by
   refine QP3 (Wout:=W) hs hf hex ok tk (fun a' T' oe oT σ3 H3 cls d s3 tb hz I3 ⟨x,ρ3,zs3,zh3,e3,R3,S3,rz3,rx3,p3⟩ htb=>?_) xx;have hc:cls = .ref (g.cad x.c):=rx3.1;unfold Qj4 at p3;dsimp only at p3;cases kx:Qs3 MX z zh3 with
   | bad=>rw [kx] at p3; exact p3.elim
   | exc y h'=>rw [kx] at p3; exact p3.elim
   | ok zr zh4 =>
   rw [kx] at p3;cases zr with
   | r i=>exact p3.elim
   | e i=>exact p3.elim
   | d dr =>
   cases dr
   case non =>
     have p3:PostS g F W ρ zh H (.exc x zs3 zh4) D:=p3
     obtain ⟨t,ht,et⟩:∃ (t:Z),((∃ c,t = .e c)\/t = .d .non) /\ ∃ vt,RZ g (UO F ρ3 zh3) H3 ρ3 t vt/\L2.RelV vt tb:=by
       rcases htb with rfl | rfl
       . exact ⟨.e T',.inl ⟨_,rfl⟩,.ref T',rfl,rfl⟩
       . exact ⟨.d .non,.inr rfl,.non,rz_non.mpr rfl,rfl⟩
     obtain ⟨vt,rt,rvt⟩:=et;have kk:=QP5 kx (g.cad x.c) a' t ht;refine codeAny_mono (Qh0 (X:=X.suite a' ((a',oe)::(T',oT)::(X.pn++pins))) (zs:=[z,.e (g.cad x.c),.e a',t]) (us:=[.ref a,cls,.ref a',tb]) (vs:=[.ref a,.ref (g.cad x.c),.ref a',vt]) tx ⟨hr.dp,hr.un⟩ I3 R3 ⟨_,_,rfl,rz3,_,_,rfl,rfl,_,_,rfl,rfl,_,_,rfl,rt,rfl⟩ (.cons rfl (.cons (by rw [hc]; rfl) (.cons rfl (.cons rvt .nil)))) kk) fun r s6 ⟨u6,v6,ρ6,H6,er,rv6,I6,e6,R6,rz6⟩=>?_;have hv:v6 = .non:=rz_non.mp rz6;subst hv;obtain rfl:u6=Value.none:=rv6;exact ⟨er,H6,I6,p3 ρ6 σ3 cls d H6 (e3.trans e6) R6 (S3.mono e6) (rx_ext e6 rx3)⟩
   all_goals exact p3.elim
 refine wpAny_mono ((hb _ (X.pn++pins) _ tk' PassesOwn.looking).run [] s2 σ H2 { nx:=fun σ3 H3=>∃ ρ3 s3 zh3,Ext F ρ zh H ρ3 zh3 H3/\RelH g F ρ3 zh3 H3/\RelS g (UO F ρ3 zh3) H3 ρ3 s3 σ3/\RZ g (UO F ρ3 zh3) H3 ρ3 z (.ref a)/\PostS g F W ρ zh H (Qj4 MX z (.nx s3 zh3)) D,rt:=fun v H3=>∃ ρ3 y zh3,Ext F ρ zh H ρ3 zh3 H3/\RelH g F ρ3 zh3 H3/\RZ g (UO F ρ3 zh3) H3 ρ3 y v/\RZ g (UO F ρ3 zh3) H3 ρ3 z (.ref a)/\PostS g F W ρ zh H (Qj4 MX z (.rt y zh3)) D,bk:=fun _ _=>False,ct:=fun _ _=>False } (I2.toTry _) ⟨ρ2,zσ,zh2,R2,RS.mono e02,?_⟩) (fun f s4 h4=>?_) fun _ _ z=>z
 . cases kb:db zσ zh2 with
   | bad=>rw [kb] at p1; exact p1.elim
   | nx s3 zh3=>rw [kb] at p1; exact fun ρ3 σ3 H3 e3 R3 S3=>⟨ρ3,s3,zh3,e02.trans e3,R3,S3,RZ.mono e3.stb e3.pre rz2,p1⟩
   | rt y zh3=>rw [kb] at p1; exact fun ρ3 v H3 e3 R3 ry=>⟨ρ3,y,zh3,e02.trans e3,R3,ry,RZ.mono e3.stb e3.pre rz2,p1⟩
   | bk s3 zh3=>rw [kb] at p1; exact p1.elim
   | ct s3 zh3=>rw [kb] at p1; exact p1.elim
   | exc x s3 zh3=>rw [kb] at p1; exact fun ρ3 σ3 cls d H3 e3 R3 S3 rx=>⟨x,ρ3,s3,zh3,e02.trans e3,R3,S3,RZ.mono e3.stb e3.pre rz2,rx,p1⟩
 . have nn:∀ {ρ3:List Addr} {zh3:ZH} {H3:Hp},RZ g (UO F ρ3 zh3) H3 ρ3 z (.ref a)->RZs g (UO F ρ3 zh3) H3 ρ3 [z,.d .non,.d .non,.d .non] [.ref a,.non,.non,.non]:=fun {ρ3 zh3 H3} r =>
     ⟨_,_,rfl,r,_,_,rfl,rz_non.mpr rfl,_,_,rfl,rz_non.mpr rfl,_,_,rfl,rz_non.mpr rfl,rfl⟩
   have vv:L2.Vals [.ref a,.non,.non,.non] [Value.ref a,.none,.none,.none]:=.cons rfl (.cons rfl (.cons rfl (.cons rfl .nil)));cases f with
   | brk=>obtain ⟨_,_,_,z⟩:=h4; exact z.elim
   | cont=>obtain ⟨_,_,_,z⟩:=h4; exact z.elim
   | next =>
     obtain ⟨σ3,H3,I3,ρ3,zs3,zh3,e3,R3,S3,rz3,p3⟩:=h4;have I3:L2.Inv X pins σ3 H3 s4:=I3.ofTry ok;unfold Qj4 at p3;dsimp only at p3;cases kx:J8 MX [z,.d .non,.d .non,.d .non] zh3 with
     | bad=>rw [kx] at p3; exact p3.elim
     | exc y h'=>rw [kx] at p3; exact p3.elim
     | ok zr zh4 =>
     rw [kx] at p3;cases zr with
     | r i=>exact p3.elim
     | e i=>exact p3.elim
     | d dr =>
     cases dr
     case non =>
       have p3:PostS g F W ρ zh H (.nx zs3 zh4) D:=p3
       exact wpAny_call (codeAny_mono (Qh0 tx hr I3 R3 (nn rz3) vv kx) fun r s6 ⟨u6,v6,ρ6,H6,er,_,I6,e6,R6,_⟩=>by
         subst er
         exact ⟨σ3,H6,I6,p3 ρ6 σ3 H6 (e3.trans e6) R6 (S3.mono e6)⟩)
     all_goals exact p3.elim
   | ret uu =>
     obtain ⟨v3,σ3,H3,I3,rv3,ρ3,y,zh3,e3,R3,ry,rz3,p3⟩:=h4;have I3:L2.Inv X pins σ3 H3 s4:=I3.ofTry ok;unfold Qj4 at p3;dsimp only at p3;cases kx:J8 MX [z,.d .non,.d .non,.d .non] zh3 with
     | bad=>rw [kx] at p3; exact p3.elim
     | exc y h'=>rw [kx] at p3; exact p3.elim
     | ok zr zh4 =>
     rw [kx] at p3;cases zr with
     | r i=>exact p3.elim
     | e i=>exact p3.elim
     | d dr =>
     cases dr
     case non =>
       have p3:PostS g F W ρ zh H (.rt y zh4) D:=p3
       exact wpAny_call (codeAny_mono (Qh0 tx hr I3 R3 (nn rz3) vv kx) fun r s6 ⟨u6,v6,ρ6,H6,er,_,I6,e6,R6,_⟩=>by
         subst er
         exact ⟨v3,σ3,H6,I6,rv3,p3 ρ6 v3 H6 (e3.trans e6) R6 (RZ.mono e6.stb e6.pre ry)⟩)
     all_goals exact p3.elim
end
end Zl
end
section
namespace Zl
open PySem PySem.Spec PyProof.Rows L2
def Qb3:DS:=O4 [0,1,2,3,4,5] (U9 (K7 (Qz2 (dNil)) (Z8 3)) (U9 (Qk2 (K0 (Q4 (Y1 opIx (Qw5 (Q4 (dC (.int 2)) (Q4 (dC (.int 3)) (Q4 (dC (.int 1)) (Q4 (dC (.int 4)) (Q4 (dC (.int 0)) (dNil))))))) (X7 M_law_draw (Q4 (Q7 0) (Q4 (dC (.int 5)) (dNil))))) (dNil))) (Z8 4) (O4 [4,5] (U9 (K7 (Y1 opIx (Q7 1) (X7 M_law_draw (Q4 (Q7 0) (Q4 (Y2 opLen (Q4 (Q7 1) (dNil))) (dNil))))) (Z8 5)) (U9 (dIf (V9 (E5 false) (X7 M_law_draw (Q4 (Q7 0) (Q4 (dC (.int 5)) (dNil)))) (dC (.int 4))) (K7 (X7 M_law_strange (Q4 (Q7 0) (Q4 (Q7 1) (dNil)))) (Z8 5)) (dSkip)) (D4 (P6 isLst opAppend (Q7 3) (Q4 (QL8 (Q4 (Q7 5) (Q4 (X7 M_law_value (Q4 (Q7 0) (Q4 (Q7 2) (dNil)))) (dNil)))) (dNil)))))))) (Xb7 3 (L0 (Q7 3)))))
def M_law_changes:Sem:=M9 3 6 Qb3
def Qs4:DS:=O4 [0,1,2,3,4,5] (U9 (K7 (Y2 (I8 true) (Q4 (Q7 2) (dNil))) (Z8 4)) (U9 (Qk2 (Qx6 (Q7 3)) (Z8 5) (O4 [5] (U9 (dIf (V9 (QC0 true) (Y1 opIx (Q7 5) (dC (.int 0))) (Q7 0)) (L0 (QL8 (Q4 (dC (.str [117,110,107,110,111,119,110])) (Q4 (Y1 opIx (Q7 5) (dC (.int 0))) (dNil))))) (dSkip)) (U9 (dIf (dOr (V9 QR0 (Y1 opIx (Q7 5) (dC (.int 1))) (dC (.int 0))) (V9 opGe (Y1 opIx (Q7 5) (dC (.int 1))) (Q7 1))) (L0 (QL8 (Q4 (dC (.str [114,97,110,103,101])) (Q4 (Y1 opIx (Q7 5) (dC (.int 0))) (Q4 (Y1 opIx (Q7 5) (dC (.int 1))) (dNil)))))) (dSkip)) (K7 (Y1 opIx (Q7 5) (dC (.int 1))) (QS4 (Q7 4) (P6 isLst opLIx (Q7 0) (Q4 (Y1 opIx (Q7 5) (dC (.int 0))) (dNil))))))))) (L0 (QL8 (Q4 (dC (.str [115,116,97,116,101])) (Q4 (Y2 opTuple (Q4 (Q7 4) (dNil))) (dNil)))))))
def M_law_due:Sem:=M9 4 6 Qs4
def Qe3:DS:=O4 [0,1] (U9 (L7 f_cells (Q7 1) (Q7 0)) (L7 f_saved (Qw5 (dNil)) (Q7 0)))
def M_Trial_init:Sem:=M9 2 2 Qe3
def Qb4:DS:=O4 [0] (L0 (Qn2 true Q5 M_Trial_init (Q4 (Q7 0) (dNil))))
def M_Cells_trial:Sem:=M9 1 1 Qb4
def Qb5:DS:=O4 [0] (U9 (L7 f_saved (Y2 (I8 true) (Q4 (Qq2 f_current (Qq2 f_cells (Q7 0))) (dNil))) (Q7 0)) (L0 (Qq2 f_cells (Q7 0))))
def M_Trial_enter:Sem:=M9 1 1 Qb5
def Qe4:DS:=O4 [0,1,2,3] (L7 f_current (Qq2 f_saved (Q7 0)) (Qq2 f_cells (Q7 0)))
def M_Trial_exit:Sem:=M9 4 4 Qe4
def C2:DS:=O4 [0,1,2] (U9 (dIf (V9 (QC0 true) (Q7 1) (Qr8 (Qq2 f_names (Q7 0)))) (Qc6 cUnknownCell (Q4 (Q7 1) (dNil))) (dSkip)) (U9 (dIf (Qt0 (E6 (P9 Qw3 QR0 (dC (.int 0)) (Q7 2) (Qq2 f_size (Q7 0))))) (Qc6 cOutOfRange (Q4 (Q7 1) (Q4 (Q7 2) (dNil)))) (dSkip)) (K7 (Q7 2) (QS4 (Qq2 f_current (Q7 0)) (P6 Qy1 QI5 (Qq2 f_names (Q7 0)) (Q4 (Q7 1) (dNil)))))))
def M_Cells_setitem:Sem:=M9 3 3 C2
def mtWithTrial:Nat->Option (Sem × Sem):=fun c=>if c=Q5 then some (M_Trial_enter,M_Trial_exit) else none
def mtP_contents:Nat->Option Sem:=fun c=>if c=X2 then some M_Cells_contents_get else none
def mtO_setitem:Nat->Option Sem:=fun c=>if c=X2 then some M_Cells_setitem else none
def mtSelfCells_trial:Nat->Option Sem:=fun c=>if c=X2 then some M_Cells_trial else none
def Qe5:DS:=O4 [0,1,2,3] (QK7 (S7 mtSelfCells_trial (Q7 0) dNil) mtWithTrial (U9 (Qk2 (Qx6 (Q7 1)) (Qu5 2 3) (O4 [2,3] (K7 (Q7 3) (QB4 mtO_setitem (Q7 0) (Q7 2))))) (L0 (Qs1 mtP_contents (Q7 0)))))
def M_Cells_peek:Sem:=M9 2 4 Qe5
def mtCells_peek:Nat->Option Sem:=fun c=>if c=X2 then some M_Cells_peek else none
def Qe6:DS:=O4 [0,1,2] (Qa9 (L0 (QL8 (Q4 (dC (.str [115,116,97,116,101])) (Q4 (S7 mtCells_peek (Q7 0) (Q4 (Q7 1) (dNil))) (dNil))))) [((Qf2 cUnknownCell),2,fun a x=>L0 (QL8 (Q4 (dC (.str [117,110,107,110,111,119,110])) (Q4 (QA6 a x f_cell (Q7 2)) (dNil))))),((Qf2 cOutOfRange),2,fun a x=>L0 (QL8 (Q4 (dC (.str [114,97,110,103,101])) (Q4 (QA6 a x f_cell (Q7 2)) (Q4 (QA6 a x f_value (Q7 2)) (dNil))))))])
def M_law_peeked:Sem:=M9 2 3 Qe6
def D9:DS:=O4 [0,1,2] (K7 (Q7 2) (QB4 mtO_setitem (Q7 0) (Q7 1)))
def M_Cells_change:Sem:=M9 3 3 D9
def mtCells_reset:Nat->Option Sem:=fun c=>if c=X2 then some M_Cells_reset else none
def mtCells_trial:Nat->Option Sem:=fun c=>if c=X2 then some M_Cells_trial else none
def mtCells_change:Nat->Option Sem:=fun c=>if c=X2 then some M_Cells_change else none
def D_law:DS:=O4 [0,1,2,3,4,5,6,7,8,9,10,11,12,13,14,15] (U9 (K7 (X7 M_law_pool (Q4 (Q7 0) (dNil))) (Z8 1)) (U9 (K7 (X7 M_law_names (Q4 (Q7 1) (Q4 (Y1 opIx (Qw5 (Q4 (dC (.int 2)) (Q4 (dC (.int 3)) (Q4 (dC (.int 1)) (dNil))))) (X7 M_law_draw (Q4 (Q7 1) (Q4 (dC (.int 3)) (dNil))))) (dNil)))) (Z8 2)) (U9 (K7 (Y1 opIx (Qw5 (Q4 (dC (.int 2)) (Q4 (dC (.int 3)) (Q4 (dC (.int 1)) (dNil))))) (X7 M_law_draw (Q4 (Q7 1) (Q4 (dC (.int 3)) (dNil))))) (Z8 3)) (U9 (K7 (Qt5 (Q4 (Qn2 true X2 M_Cells_init (Q4 (Y2 (I8 false) (Q4 (Q7 2) (dNil))) (Q4 (Q7 3) (dNil)))) (Q4 (Qn2 true X2 M_Cells_init (Q4 (Y2 (I8 false) (Q4 (Q7 2) (dNil))) (Q4 (Q7 3) (dNil)))) (dNil)))) (Z8 4)) (U9 (K7 (Qt5 (dNil)) (Z8 5)) (U9 (Qk2 (Qx6 (Q7 4)) (Z8 6) (O4 [6,7] (U9 (K7 (dLc .own (Qx6 (Q7 2)) 8 tYesZ (X7 M_law_draw (Q4 (Q7 1) (Q4 (Q7 3) (dNil))))) (Z8 7)) (U9 (D4 (S7 mtCells_reset (Q7 6) (Q4 (Y2 opTuple (Q4 (Q7 7) (dNil))) (dNil)))) (D4 (P6 isLst opAppend (Q7 5) (Q4 (Q7 7) (dNil)))))))) (U9 (Qk2 (K0 (Q4 (dC (.int 6)) (dNil))) (Z8 9) (O4 [9,10,11,12,13,14,15] (U9 (K7 (X7 M_law_changes (Q4 (Q7 1) (Q4 (Q7 2) (Q4 (Q7 3) (dNil))))) (Z8 10)) (U9 (K7 (X7 M_law_due (Q4 (Q7 2) (Q4 (Q7 3) (Q4 (Y1 opIx (Q7 5) (Y1 H7 (Q7 9) (dC (.int 2)))) (Q4 (Q7 10) (dNil)))))) (Z8 11)) (U9 (K7 (Y2 (I8 false) (Q4 (Q7 10) (dNil))) (Z8 12)) (U9 (K7 (X7 M_law_peeked (Q4 (Y1 opIx (Q7 4) (Y1 H7 (Q7 9) (dC (.int 2)))) (Q4 (Q7 12) (dNil)))) (Z8 13)) (U9 (dIf (dOr (V9 (E5 true) (Q7 12) (Q7 10)) (dOr (V9 (E5 true) (Y2 opLen (Q4 (Q7 13) (dNil))) (Y2 opLen (Q4 (Q7 11) (dNil)))) (V9 (E5 true) (Y1 opIx (Q7 13) (dC (.int 0))) (Y1 opIx (Q7 11) (dC (.int 0)))))) (L0 (dC (.bl false))) (dSkip)) (U9 (dIf (dAnd (V9 (E5 false) (Y1 opIx (Q7 11) (dC (.int 0))) (dC (.str [115,116,97,116,101]))) (Qt0 (Qf0 (X7 M_law_same (Q4 (Y1 opIx (Q7 13) (dC (.int 1))) (Q4 (Y1 opIx (Q7 11) (dC (.int 1))) (dNil))))))) (L0 (dC (.bl false))) (dSkip)) (U9 (dIf (V9 (E5 true) (Q7 13) (Q7 11)) (L0 (dC (.bl false))) (dSkip)) (U9 (dIf (V9 (QD1 false) (S7 mtCells_trial (Y1 opIx (Q7 4) (Y1 H7 (Q7 9) (dC (.int 2)))) dNil) (dC .non)) (L0 (dC (.bl false))) (dSkip)) (U9 (Qk2 (K0 (Q4 (dC (.int 2)) (dNil))) (Z8 14) (O4 [14] (dIf (Qt0 (Qf0 (X7 M_law_same (Q4 (Qs1 mtP_contents (Y1 opIx (Q7 4) (Q7 14))) (Q4 (Y2 opTuple (Q4 (Y1 opIx (Q7 5) (Q7 14)) (dNil))) (dNil)))))) (L0 (dC (.bl false))) (dSkip)))) (U9 (K7 (X7 M_law_draw (Q4 (Q7 1) (Q4 (Y2 opLen (Q4 (Q7 2) (dNil))) (dNil)))) (Z8 15)) (U9 (K7 (X7 M_law_draw (Q4 (Q7 1) (Q4 (Q7 3) (dNil)))) (QS4 (Y1 opIx (Q7 5) (Y1 H7 (Q7 9) (dC (.int 2)))) (Q7 15))) (U9 (D4 (S7 mtCells_change (Y1 opIx (Q7 4) (Y1 H7 (Q7 9) (dC (.int 2)))) (Q4 (Y1 opIx (Q7 2) (Q7 15)) (Q4 (Y1 opIx (Y1 opIx (Q7 5) (Y1 H7 (Q7 9) (dC (.int 2)))) (Q7 15)) (dNil))))) (dIf (Qt0 (Qf0 (X7 M_law_same (Q4 (Qs1 mtP_contents (Y1 opIx (Q7 4) (Y1 H7 (Q7 9) (dC (.int 2))))) (Q4 (Y2 opTuple (Q4 (Y1 opIx (Q7 5) (Y1 H7 (Q7 9) (dC (.int 2)))) (dNil))) (dNil)))))) (L0 (dC (.bl false))) (dSkip)))))))))))))))) (L0 (dC (.bl true))))))))))
def M_law:Sem:=M9 1 16 D_law
structure Txt (g:G) (mg:Str->Option Value):Prop where
 n_abs:mg "abs" = none
 n_all:mg "all" = none
 n_bool:mg "bool" = none
 n_int:mg "int" = none
 n_isinstance:mg "isinstance" = none
 n_len:mg "len" = none
 n_list:mg "list" = none
 n_range:mg "range" = none
 n_set:mg "set" = none
 n_tuple:mg "tuple" = none
 n_zip:mg "zip" = none
 cls:ClsOk g
 excC:∀ c,g.hasX c=true->ExcC g.K (g.cad c)
 isx_ok:∀ c x,g.hasX c=true->g.hasX x=true -> ∀ b,isx c x=some b->PySem.W.kitOne g.K (.ref (g.cad c)) (.ref (g.cad x))=some b
 isVE:∀ c,g.hasX c=true->PySem.W.kitOne g.K (.ref (g.cad c)) (.type "ValueError")=some true
 exc_InvalidCells:ExcF g.K (g.cad X3)
 g_Cells:mg "Cells" = some (.ref (g.cad X2))
 g_InvalidCells:mg "InvalidCells" = some (.ref (g.cad X3))
 g_InvalidState:mg "InvalidState" = some (.ref (g.cad cInvalidState))
 g_OutOfRange:mg "OutOfRange" = some (.ref (g.cad cOutOfRange))
 g_Trial:mg "Trial" = some (.ref (g.cad Q5))
 g_UnknownCell:mg "UnknownCell" = some (.ref (g.cad cUnknownCell))
 glob_LETTERS:∃ u,mg "LETTERS" = some u/\RelV (.str (mkS [97,98,99,100,101,102,103,104,105,106,107,108,109,110,111,112,113,114,115,116,117,118,119,120,121,122])) u
 glob_MOST_CELLS:∃ u,mg "MOST_CELLS" = some u/\RelV (.int 3) u
 glob_MOST_LETTERS:∃ u,mg "MOST_LETTERS" = some u/\RelV (.int 8) u
 glob_MOST_SIZE:∃ u,mg "MOST_SIZE" = some u/\RelV (.int 3) u
 has_Cells:g.has X2=true
 has_Trial:g.has Q5=true
 hit_OutOfRange:QV9 g.K g (.ref (g.cad cOutOfRange)) (Qf2 cOutOfRange)
 hit_UnknownCell:QV9 g.K g (.ref (g.cad cUnknownCell)) (Qf2 cUnknownCell)
 hx_InvalidCells:g.hasX X3=true
 noX_cell:∀ c,g.hasX c=true->PySem.W.findIn g.K (.ref (g.cad c)) "cell" = some none
 noX_value:∀ c,g.hasX c=true->PySem.W.findIn g.K (.ref (g.cad c)) "value" = some none
theorem Qe7:FnScope ["_law_cell", "_law_k", "_law_first", "_law_second"] ["_law_cell", "_law_k"] (defScope W5):=⟨rfl,rfl,rfl,by decide +kernel,rfl,by decide +kernel,by decide +kernel⟩
theorem Qs5 {P:Program} {g:G} {mg:Str->Option Value} {base:Heap} {k:Nat} {f:Addr} {fd:FuncData} (F:FunD g.K "_law_mixed" "_law_mixed" (defArgs W5) (defBody W5) (defScope W5) [] [] f fd) (T:Txt g mg)  :
   FnOk P g.w g.K mg base (L2.CX P g.w) (k+1) f fd ["_law_cell", "_law_k"] (lowF g M_law_mixed):=by
 refine W3 F Qe7 fun F cdv A outer s H E hr=>?_;have tk:=W4 (P:=P) (w:=g.w) (K:=g.K) (mg:=mg) (base:=base) (N:=["_law_cell", "_law_k", "_law_first", "_law_second"]) (qual := "_law_mixed") (sc:=defScope W5) (f:=f) (cdv:=cdv) (A:=A) (outer:=outer) (s:=s) (H:=H) (E:=E);have po:PassesOwn _ _ _ _:=passes_of (X:=cxOf (L2.CX P g.w) P g.w g.K mg base ["_law_cell", "_law_k", "_law_first", "_law_second"] "_law_mixed" (defScope W5) f cdv A outer s H E) rfl;have sc:=Qe7;exact Y0 _ (Q8 (Z3 2 sc.nd (M4 (Qa5 rfl T.n_int (Q0 (M6 rfl (M6 rfl (Qn5 (Q3 0) (X4)) (Qn5 (Q3 1) (X4))) (X4)) (Q6))) (X4))) (Q8 (Z3 3 sc.nd (M4 (Qa5 rfl T.n_int (Q0 (M6 rfl (M6 rfl (Qn5 (Q3 2) (Q3 2)) (Qn5 (Q3 1) (X4))) (X4)) (Q6))) (X4))) (X1 (Z1 (M4 (Qa5 rfl T.n_int (Q0 (M6 rfl (Qn5 (Q3 3) (Q3 3)) (Q3 2)) (Q6))) (X4))))))
theorem Qj5:FnScope ["_law_script", "_law_pool_here", "_law_at", "_law_left", "_law_k"] ["_law_script"] (defScope Z5):=⟨rfl,rfl,rfl,by decide +kernel,rfl,by decide +kernel,by decide +kernel⟩
theorem Qv4 {P:Program} {g:G} {mg:Str->Option Value} {base:Heap} {k:Nat} {f:Addr} {fd:FuncData} (F:FunD g.K "_law_pool" "_law_pool" (defArgs Z5) (defBody Z5) (defScope Z5) [] [] f fd) (T:Txt g mg) (Xn8:Cal P g.w g mg base (k) "_law_mixed" ["_law_cell", "_law_k"] M_law_mixed) :
   FnOk P g.w g.K mg base (L2.CX P g.w) (k+1) f fd ["_law_script"] (lowF g M_law_pool):=by
 obtain ⟨f_law_mixed,Xi0,Xn9,Xo0⟩:=Xn8;refine W3 F Qj5 fun F cdv A outer s H E hr=>?_;have tk:=W4 (P:=P) (w:=g.w) (K:=g.K) (mg:=mg) (base:=base) (N:=["_law_script", "_law_pool_here", "_law_at", "_law_left", "_law_k"]) (qual := "_law_pool") (sc:=defScope Z5) (f:=f) (cdv:=cdv) (A:=A) (outer:=outer) (s:=s) (H:=H) (E:=E);have po:PassesOwn _ _ _ _:=passes_of (X:=cxOf (L2.CX P g.w) P g.w g.K mg base ["_law_script", "_law_pool_here", "_law_at", "_law_left", "_law_k"] "_law_pool" (defScope Z5) f cdv A outer s H E) rfl;have sc:=Qj5;exact Y0 _ (Q8 (Z3 1 sc.nd (QD6 (Q6))) (Q8 (G1 po rfl (Z4 (by rfl) T.n_range (Q0 (B7 rfl T.n_len (Q0 (Q3 0) (Q6))) (Q6))) (B0 2 sc.nd) B1 (Y0 [2,3,4] (Q8 (Z3 3 sc.nd (zc_abs rfl T.n_abs (Q0 (Qa5 rfl T.n_int (Q0 (P5 rfl (Q3 0) (Q3 2)) (Q6))) (Q6)))) (X1 (H8 (QU2  (Q3 3) (z_pow (X4) (X4))) (X1 (G1 po rfl (Z4 (by rfl) T.n_range (Q0 (X4) (Q6))) (B0 4 sc.nd) B1 (Y0 [4] (X1 (D8 (E9 rfl (Q3 1) (Q0 (J9 Xo0 hr tk (by rfl) Xn9 (Q0 (Q3 3) (Q0 (M6 rfl (Qn5 (X4) (Q3 2)) (Q3 4)) (Q6)))) (Q6)))))))) (X1 (G1 po rfl (Z4 (by rfl) T.n_range (Q0 (X4) (Q6))) (B0 4 sc.nd) B1 (Y0 [4] (X1 (H8 (zt_gt  (Q3 3) (X4)) (Q8 (D8 (E9 rfl (Q3 1) (Q0 (M4 (Qa5 rfl T.n_int (Q0 (Q3 3) (Q6))) (X4)) (Q6)))) (X1 (Z3 3 sc.nd (z_div (Q3 3) (X4))))) (W2))))))))))) (Q8 (D8 (QD9 rfl (Q3 1))) (X1 (Z1 (Q3 1))))))
theorem Qj6:FnScope ["_law_pool_here", "_law_many"] ["_law_pool_here", "_law_many"] (defScope Z6):=⟨rfl,rfl,rfl,by decide +kernel,rfl,by decide +kernel,by decide +kernel⟩
theorem Qv5 {P:Program} {g:G} {mg:Str->Option Value} {base:Heap} {k:Nat} {f:Addr} {fd:FuncData} (F:FunD g.K "_law_draw" "_law_draw" (defArgs Z6) (defBody Z6) (defScope Z6) [] [] f fd) (T:Txt g mg)  :
   FnOk P g.w g.K mg base (L2.CX P g.w) (k+1) f fd ["_law_pool_here", "_law_many"] (lowF g M_law_draw):=by
 refine W3 F Qj6 fun F cdv A outer s H E hr=>?_;have tk:=W4 (P:=P) (w:=g.w) (K:=g.K) (mg:=mg) (base:=base) (N:=["_law_pool_here", "_law_many"]) (qual := "_law_draw") (sc:=defScope Z6) (f:=f) (cdv:=cdv) (A:=A) (outer:=outer) (s:=s) (H:=H) (E:=E);have po:PassesOwn _ _ _ _:=passes_of (X:=cxOf (L2.CX P g.w) P g.w g.K mg base ["_law_pool_here", "_law_many"] "_law_draw" (defScope Z6) f cdv A outer s H E) rfl;have sc:=Qj6;exact Y0 _ (Q8 (H8 (Qm7 rfl hr (Q3 0) (Qm9 (Q6))) (X1 (Z1 (X4))) (W2)) (X1 (Z1 (M4 (Qa5 rfl T.n_int (Q0 (z_pop rfl (Q3 0)) (Q6))) (Q3 1)))))
theorem Qe8:FnScope ["_law_pool_here", "_law_count", "_law_letters", "_law_choice", "_law_shift", "_law_stride", "_law_front", "_law_k", "_law_back", "_law_names_here", "_law_name"] ["_law_pool_here", "_law_count"] (defScope W7):=⟨rfl,rfl,rfl,by decide +kernel,rfl,by decide +kernel,by decide +kernel⟩
theorem Qs6 {P:Program} {g:G} {mg:Str->Option Value} {base:Heap} {k:Nat} {f:Addr} {fd:FuncData} (F:FunD g.K "_law_names" "_law_names" (defArgs W7) (defBody W7) (defScope W7) [] [] f fd) (T:Txt g mg) (Xc6:Cal P g.w g mg base (k) "_law_draw" ["_law_pool_here", "_law_many"] M_law_draw) :
   FnOk P g.w g.K mg base (L2.CX P g.w) (k+1) f fd ["_law_pool_here", "_law_count"] (lowF g M_law_names):=by
 obtain ⟨Xf7,Xd0,Xc3,Xc4⟩:=Xc6;refine W3 F Qe8 fun F cdv A outer s H E hr=>?_;have tk:=W4 (P:=P) (w:=g.w) (K:=g.K) (mg:=mg) (base:=base) (N:=["_law_pool_here", "_law_count", "_law_letters", "_law_choice", "_law_shift", "_law_stride", "_law_front", "_law_k", "_law_back", "_law_names_here", "_law_name"]) (qual := "_law_names") (sc:=defScope W7) (f:=f) (cdv:=cdv) (A:=A) (outer:=outer) (s:=s) (H:=H) (E:=E);have po:PassesOwn _ _ _ _:=passes_of (X:=cxOf (L2.CX P g.w) P g.w g.K mg base ["_law_pool_here", "_law_count", "_law_letters", "_law_choice", "_law_shift", "_law_stride", "_law_front", "_law_k", "_law_back", "_law_names_here", "_law_name"] "_law_names" (defScope W7) f cdv A outer s H E) rfl;have sc:=Qe8;exact Y0 _ (Q8 (Z3 2 sc.nd (P4 [97,98,99,100,101,102,103,104,105,106,107,108,109,110,111,112,113,114,115,116,117,118,119,120,121,122])) (Q8 (Z3 3 sc.nd (J9 Xc4 hr tk (by rfl) Xc3 (Q0 (Q3 0) (Q0 (X4) (Q6))))) (Q8 (H8 (Qm7 rfl hr (Q3 3) (X4)) (X1 (Z1 (z_sl rfl (Qm9 (Q0 (P4 [114,101,97,100]) (Q0 (P4 [97,115]) (Q0 (P4 [119,114,105,116,101]) (Q0 (P4 [98,121]) (Q0 (P4 [111,102]) (Q0 (P4 [112,114,111,103,114,97,109]) (Q6)))))))) QF3 (QF4 (Q3 1))))) (W2)) (Q8 (Z3 4 sc.nd (J9 Xc4 hr tk (by rfl) Xc3 (Q0 (Q3 0) (Q0 (X4) (Q6))))) (Q8 (Z3 5 sc.nd (P5 rfl (Qm9 (Q0 (X4) (Q0 (X4) (Q0 (X4) (Q6))))) (J9 Xc4 hr tk (by rfl) Xc3 (Q0 (Q3 0) (Q0 (X4) (Q6)))))) (Q8 (Z3 6 sc.nd (P4 [])) (Q8 (G1 po rfl (Z4 (by rfl) T.n_range (Q0 (J9 Xc4 hr tk (by rfl) Xc3 (Q0 (Q3 0) (Q0 (X4) (Q6)))) (Q6))) (B0 7 sc.nd) B1 (Y0 [7] (X1 (Z3 6 sc.nd (M6 rfl (Q3 6) (P5 rfl (Q3 2) (J9 Xc4 hr tk (by rfl) Xc3 (Q0 (Q3 0) (Q0 (X4) (Q6)))))))))) (Q8 (Z3 8 sc.nd (P4 [])) (Q8 (G1 po rfl (Z4 (by rfl) T.n_range (Q0 (J9 Xc4 hr tk (by rfl) Xc3 (Q0 (Q3 0) (Q0 (X4) (Q6)))) (Q6))) (B0 7 sc.nd) B1 (Y0 [7] (X1 (Z3 8 sc.nd (M6 rfl (Q3 8) (P5 rfl (Q3 2) (J9 Xc4 hr tk (by rfl) Xc3 (Q0 (Q3 0) (Q0 (X4) (Q6)))))))))) (Q8 (Z3 9 sc.nd (QD6 (Q6))) (Q8 (G1 po rfl (Z4 (by rfl) T.n_range (Q0 (Q3 1) (Q6))) (B0 7 sc.nd) B1 (Y0 [7,10] (Q8 (Z3 10 sc.nd (M6 rfl (M6 rfl (Q3 6) (P5 rfl (Q3 2) (M4 (Qa5 rfl T.n_int (Q0 (M6 rfl (Q3 4) (Qn5 (Q3 5) (Q3 7))) (Q6))) (X4)))) (Q3 8))) (Q8 (H8 (Qm7 rfl hr (Q3 3) (X4)) (X1 (Z3 10 sc.nd (M6 rfl (Q3 10) (Qn5 (P5 rfl (Q3 2) (Q3 7)) (M4 (Q3 7) (X4)))))) (W2)) (X1 (D8 (E9 rfl (Q3 9) (Q0 (Q3 10) (Q6))))))))) (QR4 9 (X1 (Z1 (Q3 9)))))))))))))))
theorem Qb6:FnScope ["word", "letter"] ["word"] (defScope V1):=⟨rfl,rfl,rfl,by decide +kernel,rfl,by decide +kernel,by decide +kernel⟩
theorem Qo8 {P:Program} {g:G} {mg:Str->Option Value} {base:Heap} {k:Nat} {f:Addr} {fd:FuncData} (F:FunD g.K "valid_name" "valid_name" (defArgs V1) (defBody V1) (defScope V1) [] [] f fd) (T:Txt g mg)  :
   FnOk P g.w g.K mg base (L2.CX P g.w) (k+1) f fd ["word"] (lowF g M_valid_name):=by
 refine W3 F Qb6 fun F cdv A outer s H E hr=>?_;have tk:=W4 (P:=P) (w:=g.w) (K:=g.K) (mg:=mg) (base:=base) (N:=["word", "letter"]) (qual := "valid_name") (sc:=defScope V1) (f:=f) (cdv:=cdv) (A:=A) (outer:=outer) (s:=s) (H:=H) (E:=E);have po:PassesOwn _ _ _ _:=passes_of (X:=cxOf (L2.CX P g.w) P g.w g.K mg base ["word", "letter"] "valid_name" (defScope V1) f cdv A outer s H E) rfl;have sc:=Qb6;exact Y0 _ (X1 (Z1 (z_and (z_leLe (X4) (B7 rfl T.n_len (Q0 (Q3 0) (Q6))) (QF9 8 (by rfl) T.glob_MOST_LETTERS)) (z_one (QR9 rfl rfl T.n_all (Q0 (z_lc .frz 1 rfl sc.nd (Qi5 rfl (Q3 0)) (blkOk_by (N:=["word", "letter"]) (sc:=defScope V1) (by decide +kernel)) (fun _ _ _ _ _=>pg_name sc.nd rfl (by first | exact Or.inl rfl | exact Or.inr rfl)) (fun F _ _ _ _ _=>Qn4) (fun F _ _ _ _ _=>z_in rfl hr (Q3 1) (z_gstr [97,98,99,100,101,102,103,104,105,106,107,108,109,110,111,112,113,114,115,116,117,118,119,120,121,122] (by rfl) T.glob_LETTERS))) (Q6)))))))
theorem F0:FnScope ["names", "name"] ["names"] (defScope J0):=⟨rfl,rfl,rfl,by decide +kernel,rfl,by decide +kernel,by decide +kernel⟩
theorem Qk7 {P:Program} {g:G} {mg:Str->Option Value} {base:Heap} {k:Nat} {f:Addr} {fd:FuncData} (F:FunD g.K "check_names" "check_names" (defArgs J0) (defBody J0) (defScope J0) [] [] f fd) (T:Txt g mg) (Xm1:Cal P g.w g mg base (k) "valid_name" ["word"] M_valid_name) :
   FnOk P g.w g.K mg base (L2.CX P g.w) (k+1) f fd ["names"] (lowF g M_check_names):=by
 obtain ⟨f_valid_name,Xg7,Xm2,Xm3⟩:=Xm1;refine W3 F F0 fun F cdv A outer s H E hr=>?_;have tk:=W4 (P:=P) (w:=g.w) (K:=g.K) (mg:=mg) (base:=base) (N:=["names", "name"]) (qual := "check_names") (sc:=defScope J0) (f:=f) (cdv:=cdv) (A:=A) (outer:=outer) (s:=s) (H:=H) (E:=E);have po:PassesOwn _ _ _ _:=passes_of (X:=cxOf (L2.CX P g.w) P g.w g.K mg base ["names", "name"] "check_names" (defScope J0) f cdv A outer s H E) rfl;have sc:=F0;exact Y0 _ (Q8 (H8 (Xb6 (Qz1 (D7 (QD4 (X4) (B7 rfl T.n_len (Q0 (Q3 0) (Q6))) (QF9 3 (by rfl) T.glob_MOST_CELLS))) (Qq0 (QU2  (QN7 rfl rfl (by rfl) T.n_len (by rfl) T.n_set (Q3 0)) (B7 rfl T.n_len (Q0 (Q3 0) (Q6))))))) (X1 (Qu3 X3 T.hx_InvalidCells rfl tk (Qi1 T.exc_InvalidCells T.g_InvalidCells (by rfl)))) (W2)) (X1 (H8 (D7 (C6 rfl (QR9 rfl rfl T.n_all (Q0 (z_lc .frz 1 rfl sc.nd (Qi5 rfl (Q3 0)) (blkOk_by (N:=["names", "name"]) (sc:=defScope J0) (by decide +kernel)) (fun _ _ _ _ _=>pg_name sc.nd rfl (by first | exact Or.inl rfl | exact Or.inr rfl)) (fun F _ _ _ _ _=>Qn4) (fun F _ _ _ _ _=>J9 Xm3 hr takes0 (by rfl) Xm2 (Q0 (Q3 1) (Q6)))) (Q6))))) (X1 (Qu3 X3 T.hx_InvalidCells rfl tk (Qi1 T.exc_InvalidCells T.g_InvalidCells (by rfl)))) (W2))))
theorem Qb7:FnScope ["size"] ["size"] (defScope V3):=⟨rfl,rfl,rfl,by decide +kernel,rfl,by decide +kernel,by decide +kernel⟩
theorem Qo9 {P:Program} {g:G} {mg:Str->Option Value} {base:Heap} {k:Nat} {f:Addr} {fd:FuncData} (F:FunD g.K "check_size" "check_size" (defArgs V3) (defBody V3) (defScope V3) [] [] f fd) (T:Txt g mg)  :
   FnOk P g.w g.K mg base (L2.CX P g.w) (k+1) f fd ["size"] (lowF g M_check_size):=by
 refine W3 F Qb7 fun F cdv A outer s H E hr=>?_;have tk:=W4 (P:=P) (w:=g.w) (K:=g.K) (mg:=mg) (base:=base) (N:=["size"]) (qual := "check_size") (sc:=defScope V3) (f:=f) (cdv:=cdv) (A:=A) (outer:=outer) (s:=s) (H:=H) (E:=E);have po:PassesOwn _ _ _ _:=passes_of (X:=cxOf (L2.CX P g.w) P g.w g.K mg base ["size"] "check_size" (defScope V3) f cdv A outer s H E) rfl;have sc:=Qb7;exact Y0 _ (X1 (H8 (D7 (QD4 (X4) (Q3 0) (QF9 3 (by rfl) T.glob_MOST_SIZE))) (X1 (Qu3 X3 T.hx_InvalidCells rfl tk (Qi1 T.exc_InvalidCells T.g_InvalidCells (by rfl)))) (W2)))
theorem Qb8:FnScope ["self", "names", "size"] ["self", "names", "size"] (defScope V4):=⟨rfl,rfl,rfl,by decide +kernel,rfl,by decide +kernel,by decide +kernel⟩
theorem Qp0 {P:Program} {g:G} {mg:Str->Option Value} {base:Heap} {k:Nat} {f:Addr} {fd:FuncData} (F:FunD g.K "__init__" "Cells.__init__" (defArgs V4) (defBody V4) (defScope V4) [] [] f fd) (T:Txt g mg) (Xk6:Cal P g.w g mg base (k) "check_names" ["names"] M_check_names) (Xm4:Cal P g.w g mg base (k) "check_size" ["size"] M_check_size) :
   FnOk P g.w g.K mg base (L2.CX P g.w) (k+1) f fd ["self", "names", "size"] (lowF g M_Cells_init):=by
 obtain ⟨f_check_names,Xg0,Xk7,Xk8⟩:=Xk6;obtain ⟨f_check_size,Xg8,Xm5,Xm6⟩:=Xm4;refine W3 F Qb8 fun F cdv A outer s H E hr=>?_;have tk:=W4 (P:=P) (w:=g.w) (K:=g.K) (mg:=mg) (base:=base) (N:=["self", "names", "size"]) (qual := "Cells.__init__") (sc:=defScope V4) (f:=f) (cdv:=cdv) (A:=A) (outer:=outer) (s:=s) (H:=H) (E:=E);have po:PassesOwn _ _ _ _:=passes_of (X:=cxOf (L2.CX P g.w) P g.w g.K mg base ["self", "names", "size"] "Cells.__init__" (defScope V4) f cdv A outer s H E) rfl;have sc:=Qb8;exact Y0 _ (Q8 (D8 (J9 Xk8 hr tk (by rfl) Xk7 (Q0 (Qr9 (Q3 1)) (Q6)))) (Q8 (D8 (J9 Xm6 hr tk (by rfl) Xm5 (Q0 (Q3 2) (Q6)))) (Q8 (B3 f_names T.cls rfl (Q3 0) (QI4 rfl T.n_tuple (Q0 (Q3 1) (Q6)))) (Q8 (B3 f_size T.cls rfl (Q3 0) (Q3 2)) (X1 (B3 f_current T.cls rfl (Q3 0) (z_rep true (Qm9 (Q0 (X4) (Q6))) (B7 rfl T.n_len (Q0 (Qr9 (T7 f_names T.cls rfl (Q3 0))) (Q6))))))))))
theorem N0:FnScope ["self", "state", "name", "value"] ["self", "state"] (defScope Y6):=⟨rfl,rfl,rfl,by decide +kernel,rfl,by decide +kernel,by decide +kernel⟩
theorem Qf5 {P:Program} {g:G} {mg:Str->Option Value} {base:Heap} {k:Nat} {f:Addr} {fd:FuncData} (F:FunD g.K "checked" "Cells.checked" (defArgs Y6) (defBody Y6) (defScope Y6) [] [] f fd) (T:Txt g mg) (X_InvalidState:ExT P g.w g.K mg base g (k) cInvalidState) (X_OutOfRange:ExT P g.w g.K mg base g (k) cOutOfRange) :
   FnOk P g.w g.K mg base (L2.CX P g.w) (k+1+1) f fd ["self", "state"] (lowF g M_Cells_checked):=by
 refine W3 F N0 fun F cdv A outer s H E hr=>?_;have tk:=W4 (P:=P) (w:=g.w) (K:=g.K) (mg:=mg) (base:=base) (N:=["self", "state", "name", "value"]) (qual := "Cells.checked") (sc:=defScope Y6) (f:=f) (cdv:=cdv) (A:=A) (outer:=outer) (s:=s) (H:=H) (E:=E);have po:PassesOwn _ _ _ _:=passes_of (X:=cxOf (L2.CX P g.w) P g.w g.K mg base ["self", "state", "name", "value"] "Cells.checked" (defScope Y6) f cdv A outer s H E) rfl;have sc:=N0;exact Y0 _ (Q8 (H8 (Qt4 rfl hr (B7 rfl T.n_len (Q0 (Q3 1) (Q6))) (B7 rfl T.n_len (Q0 (Qr9 (T7 f_names T.cls rfl (Q3 0))) (Q6)))) (X1 (Qo5 cInvalidState rfl X_InvalidState rfl hr tk (by rfl) T.g_InvalidState (Q0 (z_non) (Q6)))) (W2)) (Q8 (G1 po rfl (zi_zip rfl (by rfl) T.n_zip (Q0 (Qr9 (T7 f_names T.cls rfl (Q3 0))) (Q0 (Q3 1) (Q6)))) (QG1 2 3 rfl rfl sc.nd) Qx3 (Y0 [2,3] (X1 (H8 (D7 (QD3 (X4) (Q3 3) (T7 f_size T.cls rfl (Q3 0)))) (X1 (QO6 cInvalidState cOutOfRange rfl X_InvalidState X_OutOfRange rfl rfl hr tk (by rfl) T.g_InvalidState (by rfl) T.g_OutOfRange (Q0 (Q3 2) (Q6)) (Q0 (Q3 2) (Q0 (Q3 3) (Q6))))) (W2))))) (X1 (Z1 (G2 true rfl T.n_list (Q0 (Q3 1) (Q6)))))))
theorem B9:FnScope ["self", "state"] ["self", "state"] (defScope X5):=⟨rfl,rfl,rfl,by decide +kernel,rfl,by decide +kernel,by decide +kernel⟩
theorem C3 {P:Program} {g:G} {mg:Str->Option Value} {base:Heap} {k:Nat} {f:Addr} {fd:FuncData} (F:FunD g.K "contents" "Cells.contents" (defArgs X5) (defBody X5) (defScope X5) [] [] f fd) (T:Txt g mg) (Xc5:MethE P g.w g.K mg base g (k) "checked" mtSelfCells_checked) :
   FnOk P g.w g.K mg base (L2.CX P g.w) (k+1) f fd ["self", "state"] (lowF g M_Cells_contents_set):=by
 refine W3 F B9 fun F cdv A outer s H E hr=>?_;have tk:=W4 (P:=P) (w:=g.w) (K:=g.K) (mg:=mg) (base:=base) (N:=["self", "state"]) (qual := "Cells.contents") (sc:=defScope X5) (f:=f) (cdv:=cdv) (A:=A) (outer:=outer) (s:=s) (H:=H) (E:=E);have po:PassesOwn _ _ _ _:=passes_of (X:=cxOf (L2.CX P g.w) P g.w g.K mg base ["self", "state"] "Cells.contents" (defScope X5) f cdv A outer s H E) rfl;have sc:=B9;exact Y0 _ (X1 (B3 f_current T.cls rfl (Q3 0) (Qn3 T.cls rfl Xc5 hr tk (Q3 0) (Q0 (Q3 1) (Q6)))))
theorem F3:FnScope ["self", "state"] ["self", "state"] (defScope U5):=⟨rfl,rfl,rfl,by decide +kernel,rfl,by decide +kernel,by decide +kernel⟩
theorem Qk8 {P:Program} {g:G} {mg:Str->Option Value} {base:Heap} {k:Nat} {f:Addr} {fd:FuncData} (F:FunD g.K "reset" "Cells.reset" (defArgs U5) (defBody U5) (defScope U5) [] [] f fd) (T:Txt g mg) (Xh4:SetE P g.w g.K mg base g (k) "contents" mtS_contents) :
   FnOk P g.w g.K mg base (L2.CX P g.w) (k+2+1) f fd ["self", "state"] (lowF g M_Cells_reset):=by
 refine W3 F F3 fun F cdv A outer s H E hr=>?_;have tk:=W4 (P:=P) (w:=g.w) (K:=g.K) (mg:=mg) (base:=base) (N:=["self", "state"]) (qual := "Cells.reset") (sc:=defScope U5) (f:=f) (cdv:=cdv) (A:=A) (outer:=outer) (s:=s) (H:=H) (E:=E);have po:PassesOwn _ _ _ _:=passes_of (X:=cxOf (L2.CX P g.w) P g.w g.K mg base ["self", "state"] "Cells.reset" (defScope U5) f cdv A outer s H E) rfl;have sc:=F3;exact Y0 _ (X1 (QJ8 T.cls rfl Xh4 hr tk (Q3 0) (Q3 1)))
theorem F4:FnScope ["_law_pool_here", "_law_names_here", "_law_words", "_law_start", "_law_k", "_law_word"] ["_law_pool_here", "_law_names_here"] (defScope U6):=⟨rfl,rfl,rfl,by decide +kernel,rfl,by decide +kernel,by decide +kernel⟩
theorem Qk9 {P:Program} {g:G} {mg:Str->Option Value} {base:Heap} {k:Nat} {f:Addr} {fd:FuncData} (F:FunD g.K "_law_strange" "_law_strange" (defArgs U6) (defBody U6) (defScope U6) [] [] f fd) (T:Txt g mg) (Xc6:Cal P g.w g mg base (k) "_law_draw" ["_law_pool_here", "_law_many"] M_law_draw) :
   FnOk P g.w g.K mg base (L2.CX P g.w) (k+1) f fd ["_law_pool_here", "_law_names_here"] (lowF g M_law_strange):=by
 obtain ⟨Xf7,Xd0,Xc3,Xc4⟩:=Xc6;refine W3 F F4 fun F cdv A outer s H E hr=>?_;have tk:=W4 (P:=P) (w:=g.w) (K:=g.K) (mg:=mg) (base:=base) (N:=["_law_pool_here", "_law_names_here", "_law_words", "_law_start", "_law_k", "_law_word"]) (qual := "_law_strange") (sc:=defScope U6) (f:=f) (cdv:=cdv) (A:=A) (outer:=outer) (s:=s) (H:=H) (E:=E);have po:PassesOwn _ _ _ _:=passes_of (X:=cxOf (L2.CX P g.w) P g.w g.K mg base ["_law_pool_here", "_law_names_here", "_law_words", "_law_start", "_law_k", "_law_word"] "_law_strange" (defScope U6) f cdv A outer s H E) rfl;have sc:=F4;exact Y0 _ (Q8 (Z3 2 sc.nd (Qm9 (Q0 (M6 rfl (P5 rfl (Q3 1) (X4)) (P4 [113])) (Q0 (z_sl rfl (P5 rfl (Q3 1) (X4)) (QF4 (X4)) QF3) (Q0 (M6 rfl (P5 rfl (Q3 1) (QX9)) (P4 [122])) (Q0 (P4 []) (Q0 (P4 [65]) (Q0 (QZ4 rfl (P5 rfl (Q3 1) (X4))) (Q6))))))))) (Q8 (Z3 3 sc.nd (J9 Xc4 hr tk (by rfl) Xc3 (Q0 (Q3 0) (Q0 (B7 rfl T.n_len (Q0 (Q3 2) (Q6))) (Q6))))) (Q8 (G1 po rfl (Z4 (by rfl) T.n_range (Q0 (B7 rfl T.n_len (Q0 (Q3 2) (Q6))) (Q6))) (B0 4 sc.nd) B1 (Y0 [4,5] (Q8 (Z3 5 sc.nd (P5 rfl (Q3 2) (M4 (Qa5 rfl T.n_int (Q0 (M6 rfl (Q3 3) (Q3 4)) (Q6))) (B7 rfl T.n_len (Q0 (Q3 2) (Q6)))))) (X1 (H8 (Qn8 rfl hr (Q3 5) (Q3 1)) (X1 (Z1 (Q3 5))) (W2)))))) (X1 (Z1 (P4 [65]))))))
theorem Qe9:FnScope ["_law_pool_here", "_law_size", "_law_choice", "_law_far"] ["_law_pool_here", "_law_size"] (defScope W8):=⟨rfl,rfl,rfl,by decide +kernel,rfl,by decide +kernel,by decide +kernel⟩
theorem Qs7 {P:Program} {g:G} {mg:Str->Option Value} {base:Heap} {k:Nat} {f:Addr} {fd:FuncData} (F:FunD g.K "_law_value" "_law_value" (defArgs W8) (defBody W8) (defScope W8) [] [] f fd) (T:Txt g mg) (Xc6:Cal P g.w g mg base (k) "_law_draw" ["_law_pool_here", "_law_many"] M_law_draw) :
   FnOk P g.w g.K mg base (L2.CX P g.w) (k+1) f fd ["_law_pool_here", "_law_size"] (lowF g M_law_value):=by
 obtain ⟨Xf7,Xd0,Xc3,Xc4⟩:=Xc6;refine W3 F Qe9 fun F cdv A outer s H E hr=>?_;have tk:=W4 (P:=P) (w:=g.w) (K:=g.K) (mg:=mg) (base:=base) (N:=["_law_pool_here", "_law_size", "_law_choice", "_law_far"]) (qual := "_law_value") (sc:=defScope W8) (f:=f) (cdv:=cdv) (A:=A) (outer:=outer) (s:=s) (H:=H) (E:=E);have po:PassesOwn _ _ _ _:=passes_of (X:=cxOf (L2.CX P g.w) P g.w g.K mg base ["_law_pool_here", "_law_size", "_law_choice", "_law_far"] "_law_value" (defScope W8) f cdv A outer s H E) rfl;have sc:=Qe9;exact Y0 _ (Q8 (Z3 2 sc.nd (J9 Xc4 hr tk (by rfl) Xc3 (Q0 (Q3 0) (Q0 (X4) (Q6))))) (Q8 (Z3 3 sc.nd (M6 rfl (Qn5 (J9 Xc4 hr tk (by rfl) Xc3 (Q0 (Q3 0) (Q0 (X4) (Q6)))) (X4)) (J9 Xc4 hr tk (by rfl) Xc3 (Q0 (Q3 0) (Q0 (X4) (Q6)))))) (Q8 (H8 (Qm7 rfl hr (Q3 2) (X4)) (X1 (Z1 (QX9))) (W2)) (Q8 (H8 (Qm7 rfl hr (Q3 2) (X4)) (X1 (Z1 (Q3 1))) (W2)) (Q8 (H8 (Qm7 rfl hr (Q3 2) (X4)) (X1 (Z1 (M6 rfl (Q3 1) (Q3 3)))) (W2)) (Q8 (H8 (Qm7 rfl hr (Q3 2) (X4)) (X1 (Z1 (z_sub (QX9) (Q3 3)))) (W2)) (X1 (Z1 (M4 (Qa5 rfl T.n_int (Q0 (Q3 3) (Q6))) (Q3 1))))))))))
theorem F5:FnScope ["_law_pool_here", "_law_names_here", "_law_size", "_law_changes_here", "_law_k", "_law_name"] ["_law_pool_here", "_law_names_here", "_law_size"] (defScope U7):=⟨rfl,rfl,rfl,by decide +kernel,rfl,by decide +kernel,by decide +kernel⟩
theorem Ql0 {P:Program} {g:G} {mg:Str->Option Value} {base:Heap} {k:Nat} {f:Addr} {fd:FuncData} (F:FunD g.K "_law_changes" "_law_changes" (defArgs U7) (defBody U7) (defScope U7) [] [] f fd) (T:Txt g mg) (Xc6:Cal P g.w g mg base (k) "_law_draw" ["_law_pool_here", "_law_many"] M_law_draw) (Xk9:Cal P g.w g mg base (k) "_law_strange" ["_law_pool_here", "_law_names_here"] M_law_strange) (Xo1:Cal P g.w g mg base (k) "_law_value" ["_law_pool_here", "_law_size"] M_law_value) :
   FnOk P g.w g.K mg base (L2.CX P g.w) (k+1) f fd ["_law_pool_here", "_law_names_here", "_law_size"] (lowF g M_law_changes):=by
 obtain ⟨Xf7,Xd0,Xc3,Xc4⟩:=Xc6;obtain ⟨f_law_strange,Xg1,Xl0,Xl1⟩:=Xk9;obtain ⟨f_law_value,Xi1,Xo2,Xo3⟩:=Xo1;refine W3 F F5 fun F cdv A outer s H E hr=>?_;have tk:=W4 (P:=P) (w:=g.w) (K:=g.K) (mg:=mg) (base:=base) (N:=["_law_pool_here", "_law_names_here", "_law_size", "_law_changes_here", "_law_k", "_law_name"]) (qual := "_law_changes") (sc:=defScope U7) (f:=f) (cdv:=cdv) (A:=A) (outer:=outer) (s:=s) (H:=H) (E:=E);have po:PassesOwn _ _ _ _:=passes_of (X:=cxOf (L2.CX P g.w) P g.w g.K mg base ["_law_pool_here", "_law_names_here", "_law_size", "_law_changes_here", "_law_k", "_law_name"] "_law_changes" (defScope U7) f cdv A outer s H E) rfl;have sc:=F5;exact Y0 _ (Q8 (Z3 3 sc.nd (QD6 (Q6))) (Q8 (G1 po rfl (Z4 (by rfl) T.n_range (Q0 (P5 rfl (Qm9 (Q0 (X4) (Q0 (X4) (Q0 (X4) (Q0 (X4) (Q0 (X4) (Q6))))))) (J9 Xc4 hr tk (by rfl) Xc3 (Q0 (Q3 0) (Q0 (X4) (Q6))))) (Q6))) (B0 4 sc.nd) B1 (Y0 [4,5] (Q8 (Z3 5 sc.nd (P5 rfl (Q3 1) (J9 Xc4 hr tk (by rfl) Xc3 (Q0 (Q3 0) (Q0 (B7 rfl T.n_len (Q0 (Q3 1) (Q6))) (Q6)))))) (Q8 (H8 (Qm7 rfl hr (J9 Xc4 hr tk (by rfl) Xc3 (Q0 (Q3 0) (Q0 (X4) (Q6)))) (X4)) (X1 (Z3 5 sc.nd (J9 Xl1 hr tk (by rfl) Xl0 (Q0 (Q3 0) (Q0 (Q3 1) (Q6)))))) (W2)) (X1 (D8 (E9 rfl (Q3 3) (Q0 (Qt6 (Q0 (Q3 5) (Q0 (J9 Xo3 hr tk (by rfl) Xo2 (Q0 (Q3 0) (Q0 (Q3 2) (Q6)))) (Q6)))) (Q6))))))))) (QR4 3 (X1 (Z1 (Q3 3))))))
theorem Qm3:FnScope ["_law_names_here", "_law_size", "_law_model", "_law_changes_here", "_law_values", "_law_change"] ["_law_names_here", "_law_size", "_law_model", "_law_changes_here"] (defScope K6):=⟨rfl,rfl,rfl,by decide +kernel,rfl,by decide +kernel,by decide +kernel⟩
theorem QB6 {P:Program} {g:G} {mg:Str->Option Value} {base:Heap} {k:Nat} {f:Addr} {fd:FuncData} (F:FunD g.K "_law_due" "_law_due" (defArgs K6) (defBody K6) (defScope K6) [] [] f fd) (T:Txt g mg)  :
   FnOk P g.w g.K mg base (L2.CX P g.w) (k+1) f fd ["_law_names_here", "_law_size", "_law_model", "_law_changes_here"] (lowF g M_law_due):=by
 refine W3 F Qm3 fun F cdv A outer s H E hr=>?_;have tk:=W4 (P:=P) (w:=g.w) (K:=g.K) (mg:=mg) (base:=base) (N:=["_law_names_here", "_law_size", "_law_model", "_law_changes_here", "_law_values", "_law_change"]) (qual := "_law_due") (sc:=defScope K6) (f:=f) (cdv:=cdv) (A:=A) (outer:=outer) (s:=s) (H:=H) (E:=E);have po:PassesOwn _ _ _ _:=passes_of (X:=cxOf (L2.CX P g.w) P g.w g.K mg base ["_law_names_here", "_law_size", "_law_model", "_law_changes_here", "_law_values", "_law_change"] "_law_due" (defScope K6) f cdv A outer s H E) rfl;have sc:=Qm3;exact Y0 _ (Q8 (Z3 4 sc.nd (G2 true rfl T.n_list (Q0 (Q3 2) (Q6)))) (Q8 (G1 po rfl (Qi5 rfl (Q3 3)) (B0 5 sc.nd) B1 (Y0 [5] (Q8 (H8 (Qn8 rfl hr (P5 rfl (Q3 5) (X4)) (Q3 0)) (X1 (Z1 (Qt6 (Q0 (P4 [117,110,107,110,111,119,110]) (Q0 (P5 rfl (Q3 5) (X4)) (Q6)))))) (W2)) (Q8 (H8 (Xb6 (Qz1 (QU2  (P5 rfl (Q3 5) (X4)) (X4)) (Qq0 (zt_ge  (P5 rfl (Q3 5) (X4)) (Q3 1))))) (X1 (Z1 (Qt6 (Q0 (P4 [114,97,110,103,101]) (Q0 (P5 rfl (Q3 5) (X4)) (Q0 (P5 rfl (Q3 5) (X4)) (Q6))))))) (W2)) (X1 (QE1 (P5 rfl (Q3 5) (X4)) (QH0 (Q3 4) (z_lix rfl (Q3 0) (Q0 (P5 rfl (Q3 5) (X4)) (Q6)))) Qv1)))))) (X1 (Z1 (Qt6 (Q0 (P4 [115,116,97,116,101]) (Q0 (Qa6 rfl T.n_tuple (Q0 (Q3 4) (Q6))) (Q6))))))))
theorem Qb9:FnScope ["self", "cells"] ["self", "cells"] (defScope V5):=⟨rfl,rfl,rfl,by decide +kernel,rfl,by decide +kernel,by decide +kernel⟩
theorem Qp1 {P:Program} {g:G} {mg:Str->Option Value} {base:Heap} {k:Nat} {f:Addr} {fd:FuncData} (F:FunD g.K "__init__" "Trial.__init__" (defArgs V5) (defBody V5) (defScope V5) [] [] f fd) (T:Txt g mg)  :
   FnOk P g.w g.K mg base (L2.CX P g.w) (k+1) f fd ["self", "cells"] (lowF g M_Trial_init):=by
 refine W3 F Qb9 fun F cdv A outer s H E hr=>?_;have tk:=W4 (P:=P) (w:=g.w) (K:=g.K) (mg:=mg) (base:=base) (N:=["self", "cells"]) (qual := "Trial.__init__") (sc:=defScope V5) (f:=f) (cdv:=cdv) (A:=A) (outer:=outer) (s:=s) (H:=H) (E:=E);have po:PassesOwn _ _ _ _:=passes_of (X:=cxOf (L2.CX P g.w) P g.w g.K mg base ["self", "cells"] "Trial.__init__" (defScope V5) f cdv A outer s H E) rfl;have sc:=Qb9;exact Y0 _ (Q8 (B3 f_cells T.cls rfl (Q3 0) (Q3 1)) (X1 (B3 f_saved T.cls rfl (Q3 0) (Qm9 (Q6)))))
theorem F6:FnScope ["self"] ["self"] (defScope U8):=⟨rfl,rfl,rfl,by decide +kernel,rfl,by decide +kernel,by decide +kernel⟩
theorem Ql1 {P:Program} {g:G} {mg:Str->Option Value} {base:Heap} {k:Nat} {f:Addr} {fd:FuncData} (F:FunD g.K "trial" "Cells.trial" (defArgs U8) (defBody U8) (defScope U8) [] [] f fd) (T:Txt g mg) (Xm7:CalMk P g.w g mg base (k) Q5 ["self", "cells"] M_Trial_init) :
   FnOk P g.w g.K mg base (L2.CX P g.w) (k+1+1) f fd ["self"] (lowF g M_Cells_trial):=by
 obtain ⟨f_Trial_init,Xg9,Xp0⟩:=Xm7;refine W3 F F6 fun F cdv A outer s H E hr=>?_;have tk:=W4 (P:=P) (w:=g.w) (K:=g.K) (mg:=mg) (base:=base) (N:=["self"]) (qual := "Cells.trial") (sc:=defScope U8) (f:=f) (cdv:=cdv) (A:=A) (outer:=outer) (s:=s) (H:=H) (E:=E);have po:PassesOwn _ _ _ _:=passes_of (X:=cxOf (L2.CX P g.w) P g.w g.K mg base ["self"] "Cells.trial" (defScope U8) f cdv A outer s H E) rfl;have sc:=F6;exact Y0 _ (X1 (Z1 (QE7 true Q5 rfl rfl T.has_Trial Xp0 hr tk (by rfl) T.g_Trial (Q0 (Q3 0) (Q6)))))
theorem B4:FnScope ["self"] ["self"] (defScope X8):=⟨rfl,rfl,rfl,by decide +kernel,rfl,by decide +kernel,by decide +kernel⟩
theorem ok_Trial_enter {P:Program} {g:G} {mg:Str->Option Value} {base:Heap} {k:Nat} {f:Addr} {fd:FuncData} (F:FunD g.K "__enter__" "Trial.__enter__" (defArgs X8) (defBody X8) (defScope X8) [] [] f fd) (T:Txt g mg)  :
   FnOk P g.w g.K mg base (L2.CX P g.w) (k+1) f fd ["self"] (lowF g M_Trial_enter):=by
 refine W3 F B4 fun F cdv A outer s H E hr=>?_;have tk:=W4 (P:=P) (w:=g.w) (K:=g.K) (mg:=mg) (base:=base) (N:=["self"]) (qual := "Trial.__enter__") (sc:=defScope X8) (f:=f) (cdv:=cdv) (A:=A) (outer:=outer) (s:=s) (H:=H) (E:=E);have po:PassesOwn _ _ _ _:=passes_of (X:=cxOf (L2.CX P g.w) P g.w g.K mg base ["self"] "Trial.__enter__" (defScope X8) f cdv A outer s H E) rfl;have sc:=B4;exact Y0 _ (Q8 (B3 f_saved T.cls rfl (Q3 0) (G2 true rfl T.n_list (Q0 (T7 f_current T.cls rfl (T7 f_cells T.cls rfl (Q3 0))) (Q6)))) (X1 (Z1 (T7 f_cells T.cls rfl (Q3 0)))))
theorem Qj7 {P:Program} {g:G} {mg:Str->Option Value} {base:Heap} {k:Nat} {f:Addr} {fd:FuncData} (F:FunD g.K "__enter__" "Trial.__enter__" (defArgs X8) (defBody X8) (defScope X8) [] [] f fd) (T:Txt g mg)  :
   FnC P g.w g.K mg base (k+1) f fd ["self"] (lowF g M_Trial_enter):=by
 refine QH9 F B4 fun F cdv A outer s H E hr=>?_;have tk:Takes (cxC P g.w g.K mg base ["self"] "Trial.__enter__" (defScope X8) f cdv A outer s H E) (fun c d _ H=>E c d H):=takes_of rfl rfl rfl rfl;have sc:=B4;exact Y0 _ (Q8 (B3 f_saved T.cls rfl (Q3 0) (G2 true rfl T.n_list (Q0 (T7 f_current T.cls rfl (T7 f_cells T.cls rfl (Q3 0))) (Q6)))) (X1 (Z1 (T7 f_cells T.cls rfl (Q3 0)))))
theorem O5:FnScope ["self", "kind", "value", "trace"] ["self", "kind", "value", "trace"] (defScope Y3):=⟨rfl,rfl,rfl,by decide +kernel,rfl,by decide +kernel,by decide +kernel⟩
theorem ok_Trial_exit {P:Program} {g:G} {mg:Str->Option Value} {base:Heap} {k:Nat} {f:Addr} {fd:FuncData} (F:FunD g.K "__exit__" "Trial.__exit__" (defArgs Y3) (defBody Y3) (defScope Y3) [] [] f fd) (T:Txt g mg)  :
   FnOk P g.w g.K mg base (L2.CX P g.w) (k+1) f fd ["self", "kind", "value", "trace"] (lowF g M_Trial_exit):=by
 refine W3 F O5 fun F cdv A outer s H E hr=>?_;have tk:=W4 (P:=P) (w:=g.w) (K:=g.K) (mg:=mg) (base:=base) (N:=["self", "kind", "value", "trace"]) (qual := "Trial.__exit__") (sc:=defScope Y3) (f:=f) (cdv:=cdv) (A:=A) (outer:=outer) (s:=s) (H:=H) (E:=E);have po:PassesOwn _ _ _ _:=passes_of (X:=cxOf (L2.CX P g.w) P g.w g.K mg base ["self", "kind", "value", "trace"] "Trial.__exit__" (defScope Y3) f cdv A outer s H E) rfl;have sc:=O5;exact Y0 _ (X1 (B3 f_current T.cls rfl (T7 f_cells T.cls rfl (Q3 0)) (T7 f_saved T.cls rfl (Q3 0))))
theorem Ql2 {P:Program} {g:G} {mg:Str->Option Value} {base:Heap} {k:Nat} {f:Addr} {fd:FuncData} (F:FunD g.K "__exit__" "Trial.__exit__" (defArgs Y3) (defBody Y3) (defScope Y3) [] [] f fd) (T:Txt g mg)  :
   FnC P g.w g.K mg base (k+1) f fd ["self", "kind", "value", "trace"] (lowF g M_Trial_exit):=by
 refine QH9 F O5 fun F cdv A outer s H E hr=>?_;have tk:Takes (cxC P g.w g.K mg base ["self", "kind", "value", "trace"] "Trial.__exit__" (defScope Y3) f cdv A outer s H E) (fun c d _ H=>E c d H):=takes_of rfl rfl rfl rfl;have sc:=O5;exact Y0 _ (X1 (B3 f_current T.cls rfl (T7 f_cells T.cls rfl (Q3 0)) (T7 f_saved T.cls rfl (Q3 0))))
theorem N3:FnScope ["self", "name", "value"] ["self", "name", "value"] (defScope Y7):=⟨rfl,rfl,rfl,by decide +kernel,rfl,by decide +kernel,by decide +kernel⟩
theorem Qf6 {P:Program} {g:G} {mg:Str->Option Value} {base:Heap} {k:Nat} {f:Addr} {fd:FuncData} (F:FunD g.K "__setitem__" "Cells.__setitem__" (defArgs Y7) (defBody Y7) (defScope Y7) [] [] f fd) (T:Txt g mg) (X_UnknownCell:ExT P g.w g.K mg base g (k) cUnknownCell) (X_OutOfRange:ExT P g.w g.K mg base g (k) cOutOfRange) :
   FnOk P g.w g.K mg base (L2.CX P g.w) (k+1+1) f fd ["self", "name", "value"] (lowF g M_Cells_setitem):=by
 refine W3 F N3 fun F cdv A outer s H E hr=>?_;have tk:=W4 (P:=P) (w:=g.w) (K:=g.K) (mg:=mg) (base:=base) (N:=["self", "name", "value"]) (qual := "Cells.__setitem__") (sc:=defScope Y7) (f:=f) (cdv:=cdv) (A:=A) (outer:=outer) (s:=s) (H:=H) (E:=E);have po:PassesOwn _ _ _ _:=passes_of (X:=cxOf (L2.CX P g.w) P g.w g.K mg base ["self", "name", "value"] "Cells.__setitem__" (defScope Y7) f cdv A outer s H E) rfl;have sc:=N3;exact Y0 _ (Q8 (H8 (Qn8 rfl hr (Q3 1) (Qr9 (T7 f_names T.cls rfl (Q3 0)))) (X1 (Qo5 cUnknownCell rfl X_UnknownCell rfl hr tk (by rfl) T.g_UnknownCell (Q0 (Q3 1) (Q6)))) (W2)) (Q8 (H8 (D7 (QD3 (X4) (Q3 2) (T7 f_size T.cls rfl (Q3 0)))) (X1 (Qo5 cOutOfRange rfl X_OutOfRange rfl hr tk (by rfl) T.g_OutOfRange (Q0 (Q3 1) (Q0 (Q3 2) (Q6))))) (W2)) (X1 (QE1 (Q3 2) (QH0 (T7 f_current T.cls rfl (Q3 0)) (z_tIx rfl (T7 f_names T.cls rfl (Q3 0)) (Q0 (Q3 1) (Q6)))) Qv1))))
theorem I0:FnScope ["self"] ["self"] (defScope X6):=⟨rfl,rfl,rfl,by decide +kernel,rfl,by decide +kernel,by decide +kernel⟩
theorem C4 {P:Program} {g:G} {mg:Str->Option Value} {base:Heap} {k:Nat} {f:Addr} {fd:FuncData} (F:FunD g.K "contents" "Cells.contents" (defArgs X6) (defBody X6) (defScope X6) [] [] f fd) (T:Txt g mg)  :
   FnOk P g.w g.K mg base (L2.CX P g.w) (k+1) f fd ["self"] (lowF g M_Cells_contents_get):=by
 refine W3 F I0 fun F cdv A outer s H E hr=>?_;have tk:=W4 (P:=P) (w:=g.w) (K:=g.K) (mg:=mg) (base:=base) (N:=["self"]) (qual := "Cells.contents") (sc:=defScope X6) (f:=f) (cdv:=cdv) (A:=A) (outer:=outer) (s:=s) (H:=H) (E:=E);have po:PassesOwn _ _ _ _:=passes_of (X:=cxOf (L2.CX P g.w) P g.w g.K mg base ["self"] "Cells.contents" (defScope X6) f cdv A outer s H E) rfl;have sc:=I0;exact Y0 _ (X1 (Z1 (Qa6 rfl T.n_tuple (Q0 (T7 f_current T.cls rfl (Q3 0)) (Q6)))))
theorem Qc0:FnScope ["self", "changes", "name", "value"] ["self", "changes"] (defScope V6):=⟨rfl,rfl,rfl,by decide +kernel,rfl,by decide +kernel,by decide +kernel⟩
theorem Qp2 {P:Program} {g:G} {mg:Str->Option Value} {base:Heap} {k:Nat} {f:Addr} {fd:FuncData} (F:FunD g.K "peek" "Cells.peek" (defArgs V6) (defBody V6) (defScope V6) [] [] f fd) (T:Txt g mg) (W_Trial:WithC P g.w g.K mg base g (k+1) mtWithTrial) (Xd1:PropE P g.w g.K mg base g (k) "contents" mtP_contents) (Xe0:OpE P g.w g.K mg base g (k) "__setitem__" mtO_setitem) (Xc9:MethE P g.w g.K mg base g (k+1) "trial" mtSelfCells_trial) :
   FnOk P g.w g.K mg base (L2.CX P g.w) (k+1+1) f fd ["self", "changes"] (lowF g M_Cells_peek):=by
 refine W3 F Qc0 fun F cdv A outer s H E hr=>?_;have tk:=W4 (P:=P) (w:=g.w) (K:=g.K) (mg:=mg) (base:=base) (N:=["self", "changes", "name", "value"]) (qual := "Cells.peek") (sc:=defScope V6) (f:=f) (cdv:=cdv) (A:=A) (outer:=outer) (s:=s) (H:=H) (E:=E);have po:PassesOwn _ _ _ _:=passes_of (X:=cxOf (L2.CX P g.w) P g.w g.K mg base ["self", "changes", "name", "value"] "Cells.peek" (defScope V6) f cdv A outer s H E) rfl;have sc:=Qc0;exact Y0 _ (X1 (z_with rfl rfl rfl rfl tk W_Trial (Room.cool hr) (Qw9 T.cls rfl Xc9 hr tk (Q3 0)) (fun W pn xe tk po=>Q8 (G1 po rfl (Qi5 rfl (Q3 1)) (QG1 2 3 rfl rfl sc.nd) Qx3 (Y0 [2,3] (X1 (QE1 (Q3 3) (QJ9 T.cls rfl Xe0 hr tk (Q3 0) (Q3 2)) Qy4)))) (X1 (Z1 (QJ7 T.cls rfl Xd1 hr (Q3 0)))))))
theorem Qc1:FnScope ["_law_cells", "_law_changes_here", "e"] ["_law_cells", "_law_changes_here"] (defScope V7):=⟨rfl,rfl,rfl,by decide +kernel,rfl,by decide +kernel,by decide +kernel⟩
theorem Qp3 {P:Program} {g:G} {mg:Str->Option Value} {base:Heap} {k:Nat} {f:Addr} {fd:FuncData} (F:FunD g.K "_law_peeked" "_law_peeked" (defArgs V7) (defBody V7) (defScope V7) [] [] f fd) (T:Txt g mg) (Xd8:MethE P g.w g.K mg base g (k) "peek" mtCells_peek) :
   FnOk P g.w g.K mg base (L2.CX P g.w) (k+1) f fd ["_law_cells", "_law_changes_here"] (lowF g M_law_peeked):=by
 refine W3 F Qc1 fun F cdv A outer s H E hr=>?_;have tk:=W4 (P:=P) (w:=g.w) (K:=g.K) (mg:=mg) (base:=base) (N:=["_law_cells", "_law_changes_here", "e"]) (qual := "_law_peeked") (sc:=defScope V7) (f:=f) (cdv:=cdv) (A:=A) (outer:=outer) (s:=s) (H:=H) (E:=E);have po:PassesOwn _ _ _ _:=passes_of (X:=cxOf (L2.CX P g.w) P g.w g.K mg base ["_law_cells", "_law_changes_here", "e"] "_law_peeked" (defScope V7) f cdv A outer s H E) rfl;have sc:=Qc1;exact Y0 _ (X1 (QI2 rfl rfl sc.nd tk (fun W pn xe tk po=>X1 (Z1 (Qt6 (Q0 (P4 [115,116,97,116,101]) (Q0 (Qn3 T.cls rfl Xd8 hr tk (Q3 0) (Q0 (Q3 1) (Q6))) (Q6)))))) (.cons ⟨by rfl,by decide,.inl T.g_UnknownCell⟩ (T.hit_UnknownCell) (fun F2 a oe cls d pn x rx ht hz hf=>X1 (Z1 (Qt6 (Q0 (P4 [117,110,107,110,111,119,110]) (Q0 (QH8 f_cell rx (QI0 (T.excC _ rx.2.1)) hz hf (T.noX_cell _ rx.2.1) (Q3 2)) (Q6)))))) (.cons ⟨by rfl,by decide,.inl T.g_OutOfRange⟩ (T.hit_OutOfRange) (fun F2 a oe cls d pn x rx ht hz hf=>X1 (Z1 (Qt6 (Q0 (P4 [114,97,110,103,101]) (Q0 (QH8 f_cell rx (QI0 (T.excC _ rx.2.1)) hz hf (T.noX_cell _ rx.2.1) (Q3 2)) (Q0 (QH8 f_value rx (QI0 (T.excC _ rx.2.1)) hz hf (T.noX_value _ rx.2.1) (Q3 2)) (Q6))))))) (.nil)))))
theorem N4:FnScope ["_law_actual"] ["_law_actual"] (defScope Y8):=⟨rfl,rfl,rfl,by decide +kernel,rfl,by decide +kernel,by decide +kernel⟩
theorem Qf7 {P:Program} {g:G} {mg:Str->Option Value} {base:Heap} {k:Nat} {f:Addr} {fd:FuncData} (F:FunD g.K "_law_is_number" "_law_is_number" (defArgs Y8) (defBody Y8) (defScope Y8) [] [] f fd) (T:Txt g mg)  :
   FnOk P g.w g.K mg base (L2.CX P g.w) (k+1) f fd ["_law_actual"] (lowF g M_law_is_number):=by
 refine W3 F N4 fun F cdv A outer s H E hr=>?_;have tk:=W4 (P:=P) (w:=g.w) (K:=g.K) (mg:=mg) (base:=base) (N:=["_law_actual"]) (qual := "_law_is_number") (sc:=defScope Y8) (f:=f) (cdv:=cdv) (A:=A) (outer:=outer) (s:=s) (H:=H) (E:=E);have po:PassesOwn _ _ _ _:=passes_of (X:=cxOf (L2.CX P g.w) P g.w g.K mg base ["_law_actual"] "_law_is_number" (defScope Y8) f cdv A outer s H E) rfl;have sc:=N4;exact Y0 _ (X1 (Z1 (z_and (QV8 .int rfl (by rfl) T.n_isinstance (QF1 (by rfl) T.n_int) (Q3 0)) (z_one (z_not (QV8 .bl rfl (by rfl) T.n_isinstance (QF1 (by rfl) T.n_bool) (Q3 0)))))))
theorem Qj8:FnScope ["_law_actual", "_law_due_here", "_law_k"] ["_law_actual", "_law_due_here"] (defScope Z7):=⟨rfl,rfl,rfl,by decide +kernel,rfl,by decide +kernel,by decide +kernel⟩
theorem Qv6 {P:Program} {g:G} {mg:Str->Option Value} {base:Heap} {k:Nat} {f:Addr} {fd:FuncData} (F:FunD g.K "_law_same" "_law_same" (defArgs Z7) (defBody Z7) (defScope Z7) [] [] f fd) (T:Txt g mg) (Xi8:Cal P g.w g mg base (k) "_law_is_number" ["_law_actual"] M_law_is_number) :
   FnOk P g.w g.K mg base (L2.CX P g.w) (k+1) f fd ["_law_actual", "_law_due_here"] (lowF g M_law_same):=by
 obtain ⟨f_law_is_number,Xe8,Xi9,Xj0⟩:=Xi8;refine W3 F Qj8 fun F cdv A outer s H E hr=>?_;have tk:=W4 (P:=P) (w:=g.w) (K:=g.K) (mg:=mg) (base:=base) (N:=["_law_actual", "_law_due_here", "_law_k"]) (qual := "_law_same") (sc:=defScope Z7) (f:=f) (cdv:=cdv) (A:=A) (outer:=outer) (s:=s) (H:=H) (E:=E);have po:PassesOwn _ _ _ _:=passes_of (X:=cxOf (L2.CX P g.w) P g.w g.K mg base ["_law_actual", "_law_due_here", "_law_k"] "_law_same" (defScope Z7) f cdv A outer s H E) rfl;have sc:=Qj8;exact Y0 _ (Q8 (H8 (Xb6 (Qz1 (D7 (C6 rfl (QV8 .tup rfl (by rfl) T.n_isinstance (QF1 (by rfl) T.n_tuple) (Q3 0)))) (Qq0 (Qt4 rfl hr (B7 rfl T.n_len (Q0 (Q3 0) (Q6))) (B7 rfl T.n_len (Q0 (Q3 1) (Q6))))))) (X1 (Z1 (QL7))) (W2)) (Q8 (G1 po rfl (Z4 (by rfl) T.n_range (Q0 (B7 rfl T.n_len (Q0 (Q3 1) (Q6))) (Q6))) (B0 2 sc.nd) B1 (Y0 [2] (X1 (H8 (Xb6 (Qz1 (D7 (C6 rfl (J9 Xj0 hr tk (by rfl) Xi9 (Q0 (P5 rfl (Q3 0) (Q3 2)) (Q6))))) (Qq0 (Qt4 rfl hr (P5 rfl (Q3 0) (Q3 2)) (P5 rfl (Q3 1) (Q3 2)))))) (X1 (Z1 (QL7))) (W2))))) (X1 (Z1 (QL7)))))
theorem C5:FnScope ["self", "name", "value"] ["self", "name", "value"] (defScope J5):=⟨rfl,rfl,rfl,by decide +kernel,rfl,by decide +kernel,by decide +kernel⟩
theorem Qj9 {P:Program} {g:G} {mg:Str->Option Value} {base:Heap} {k:Nat} {f:Addr} {fd:FuncData} (F:FunD g.K "change" "Cells.change" (defArgs J5) (defBody J5) (defScope J5) [] [] f fd) (T:Txt g mg) (Xe0:OpE P g.w g.K mg base g (k) "__setitem__" mtO_setitem) :
   FnOk P g.w g.K mg base (L2.CX P g.w) (k+1+1) f fd ["self", "name", "value"] (lowF g M_Cells_change):=by
 refine W3 F C5 fun F cdv A outer s H E hr=>?_;have tk:=W4 (P:=P) (w:=g.w) (K:=g.K) (mg:=mg) (base:=base) (N:=["self", "name", "value"]) (qual := "Cells.change") (sc:=defScope J5) (f:=f) (cdv:=cdv) (A:=A) (outer:=outer) (s:=s) (H:=H) (E:=E);have po:PassesOwn _ _ _ _:=passes_of (X:=cxOf (L2.CX P g.w) P g.w g.K mg base ["self", "name", "value"] "Cells.change" (defScope J5) f cdv A outer s H E) rfl;have sc:=C5;exact Y0 _ (X1 (QE1 (Q3 2) (QJ9 T.cls rfl Xe0 hr tk (Q3 0) (Q3 1)) Qy4))
theorem QS8:FnScope ["_law_script", "_law_pool_here", "_law_names_here", "_law_size", "_law_both", "_law_models", "_law_cells", "_law_state", "_law_name", "_law_k", "_law_changes_here", "_law_due_here", "_law_passed", "_law_told", "_law_j", "_law_at"] ["_law_script"] (defScope Qh2):=⟨rfl,rfl,rfl,by decide +kernel,rfl,by decide +kernel,by decide +kernel⟩
theorem Xq2 {P:Program} {g:G} {mg:Str->Option Value} {base:Heap} {k:Nat} {f:Addr} {fd:FuncData} (F:FunD g.K "law" "law" (defArgs Qh2) (defBody Qh2) (defScope Qh2) [] [] f fd) (T:Txt g mg) (Xp1:Cal P g.w g mg base (k+1) "_law_pool" ["_law_script"] M_law_pool) (Xo4:Cal P g.w g mg base (k+1) "_law_names" ["_law_pool_here", "_law_count"] M_law_names) (Xc6:Cal P g.w g mg base (k+1) "_law_draw" ["_law_pool_here", "_law_many"] M_law_draw) (Xm8:CalMk P g.w g mg base (k) X2 ["self", "names", "size"] M_Cells_init) (Xl2:Cal P g.w g mg base (k+1) "_law_changes" ["_law_pool_here", "_law_names_here", "_law_size"] M_law_changes) (Xp7:Cal P g.w g mg base (k+1) "_law_due" ["_law_names_here", "_law_size", "_law_model", "_law_changes_here"] M_law_due) (Xm9:Cal P g.w g mg base (k+1) "_law_peeked" ["_law_cells", "_law_changes_here"] M_law_peeked) (Xp2:Cal P g.w g mg base (k+1) "_law_same" ["_law_actual", "_law_due_here"] M_law_same) (Xd1:PropE P g.w g.K mg base g (k) "contents" mtP_contents) (Xd3:MethE P g.w g.K mg base g (k+1) "reset" mtCells_reset) (Xd4:MethE P g.w g.K mg base g (k+1) "trial" mtCells_trial) (Xd2:MethE P g.w g.K mg base g (k+1) "change" mtCells_change) :
   FnOk P g.w g.K mg base (L2.CX P g.w) (k+1+1) f fd ["_law_script"] (lowF g M_law):=by
 obtain ⟨f_law_pool,Xj1,Xp3,Xp4⟩:=Xp1;obtain ⟨f_law_names,Xi2,Xo5,Xo6⟩:=Xo4;obtain ⟨Xf7,Xd0,Xc3,Xc4⟩:=Xc6;obtain ⟨f_Cells_init,Xh0,Xk4⟩:=Xm8;obtain ⟨f_law_changes,Xg2,Xl3,Xl4⟩:=Xl2;obtain ⟨f_law_due,Xk5,Xp8,Xp9⟩:=Xp7;obtain ⟨f_law_peeked,Xh1,Xn0,Xn1⟩:=Xm9;obtain ⟨f_law_same,Xj2,Xh5,Xh6⟩:=Xp2;refine W3 F QS8 fun F cdv A outer s H E hr=>?_;have tk:=W4 (P:=P) (w:=g.w) (K:=g.K) (mg:=mg) (base:=base) (N:=["_law_script", "_law_pool_here", "_law_names_here", "_law_size", "_law_both", "_law_models", "_law_cells", "_law_state", "_law_name", "_law_k", "_law_changes_here", "_law_due_here", "_law_passed", "_law_told", "_law_j", "_law_at"]) (qual := "law") (sc:=defScope Qh2) (f:=f) (cdv:=cdv) (A:=A) (outer:=outer) (s:=s) (H:=H) (E:=E);have po:PassesOwn _ _ _ _:=passes_of (X:=cxOf (L2.CX P g.w) P g.w g.K mg base ["_law_script", "_law_pool_here", "_law_names_here", "_law_size", "_law_both", "_law_models", "_law_cells", "_law_state", "_law_name", "_law_k", "_law_changes_here", "_law_due_here", "_law_passed", "_law_told", "_law_j", "_law_at"] "law" (defScope Qh2) f cdv A outer s H E) rfl;have sc:=QS8;exact Y0 _ (Q8 (Z3 1 sc.nd (J9 Xp4 hr tk (by rfl) Xp3 (Q0 (Q3 0) (Q6)))) (Q8 (Z3 2 sc.nd (J9 Xo6 hr tk (by rfl) Xo5 (Q0 (Q3 1) (Q0 (P5 rfl (Qm9 (Q0 (X4) (Q0 (X4) (Q0 (X4) (Q6))))) (J9 Xc4 hr tk (by rfl) Xc3 (Q0 (Q3 1) (Q0 (X4) (Q6))))) (Q6))))) (Q8 (Z3 3 sc.nd (P5 rfl (Qm9 (Q0 (X4) (Q0 (X4) (Q0 (X4) (Q6))))) (J9 Xc4 hr tk (by rfl) Xc3 (Q0 (Q3 1) (Q0 (X4) (Q6)))))) (Q8 (Z3 4 sc.nd (QR1 (Q0 (QE7 true X2 rfl rfl T.has_Cells Xk4 hr tk (by rfl) T.g_Cells (Q0 (G2 false rfl T.n_list (Q0 (Q3 2) (Q6))) (Q0 (Q3 3) (Q6)))) (Q0 (QE7 true X2 rfl rfl T.has_Cells Xk4 hr tk (by rfl) T.g_Cells (Q0 (G2 false rfl T.n_list (Q0 (Q3 2) (Q6))) (Q0 (Q3 3) (Q6)))) (Q6))))) (Q8 (Z3 5 sc.nd (QR1 (Q6))) (Q8 (G1 po rfl (Qi5 rfl (Q3 4)) (B0 6 sc.nd) B1 (Y0 [6,7] (Q8 ((by first | exact QV7 .own 7 8 rfl sc.nd (Qi5 rfl (Q3 2)) (blkOk_by (N:=["_law_script", "_law_pool_here", "_law_names_here", "_law_size", "_law_both", "_law_models", "_law_cells", "_law_state", "_law_name", "_law_k", "_law_changes_here", "_law_due_here", "_law_passed", "_law_told", "_law_j", "_law_at"]) (sc:=defScope Qh2) (by decide +kernel)) (fun _ _ _ _ _=>pg_name sc.nd rfl (by first | exact Or.inl rfl | exact Or.inr rfl)) (fun F _ _ _ _ _=>Qn4) (fun F _ _ _ _ _=>J9 Xc4 hr takes0 (by rfl) Xc3 (Q0 (Q3 1) (Q0 (Q3 3) (Q6)))) | exact Z3 7 sc.nd (z_lc .own 8 rfl sc.nd (Qi5 rfl (Q3 2)) (blkOk_by (N:=["_law_script", "_law_pool_here", "_law_names_here", "_law_size", "_law_both", "_law_models", "_law_cells", "_law_state", "_law_name", "_law_k", "_law_changes_here", "_law_due_here", "_law_passed", "_law_told", "_law_j", "_law_at"]) (sc:=defScope Qh2) (by decide +kernel)) (fun _ _ _ _ _=>pg_name sc.nd rfl (by first | exact Or.inl rfl | exact Or.inr rfl)) (fun F _ _ _ _ _=>Qn4) (fun F _ _ _ _ _=>J9 Xc4 hr takes0 (by rfl) Xc3 (Q0 (Q3 1) (Q0 (Q3 3) (Q6))))))) (Q8 (D8 (Qn3 T.cls rfl Xd3 hr tk (Q3 6) (Q0 (Qa6 rfl T.n_tuple (Q0 (Q3 7) (Q6))) (Q6)))) (X1 (D8 (E9 rfl (Q3 5) (Q0 (Q3 7) (Q6))))))))) (Q8 (G1 po rfl (Z4 (by rfl) T.n_range (Q0 (X4) (Q6))) (B0 9 sc.nd) B1 (Y0 [9,10,11,12,13,14,15] (Q8 (Z3 10 sc.nd (J9 Xl4 hr tk (by rfl) Xl3 (Q0 (Q3 1) (Q0 (Q3 2) (Q0 (Q3 3) (Q6)))))) (Q8 (Z3 11 sc.nd (J9 Xp9 hr tk (by rfl) Xp8 (Q0 (Q3 2) (Q0 (Q3 3) (Q0 (P5 rfl (Q3 5) (M4 (Q3 9) (X4))) (Q0 (Q3 10) (Q6))))))) (Q8 (Z3 12 sc.nd (G2 false rfl T.n_list (Q0 (Q3 10) (Q6)))) (Q8 (Z3 13 sc.nd (J9 Xn1 hr tk (by rfl) Xn0 (Q0 (P5 rfl (Q3 4) (M4 (Q3 9) (X4))) (Q0 (Q3 12) (Q6))))) (Q8 (H8 (Xb6 (Qz1 (Qt4 rfl hr (Q3 12) (Q3 10)) (Qz1 (Qt4 rfl hr (B7 rfl T.n_len (Q0 (Q3 13) (Q6))) (B7 rfl T.n_len (Q0 (Q3 11) (Q6)))) (Qq0 (Qt4 rfl hr (P5 rfl (Q3 13) (X4)) (P5 rfl (Q3 11) (X4))))))) (X1 (Z1 (QL7))) (W2)) (Q8 (H8 (Xb6 (zw_and (Qm7 rfl hr (P5 rfl (Q3 11) (X4)) (P4 [115,116,97,116,101])) (QU4 (D7 (C6 rfl (J9 Xh6 hr tk (by rfl) Xh5 (Q0 (P5 rfl (Q3 13) (X4)) (Q0 (P5 rfl (Q3 11) (X4)) (Q6))))))))) (X1 (Z1 (QL7))) (W2)) (Q8 (H8 (Qt4 rfl hr (Q3 13) (Q3 11)) (X1 (Z1 (QL7))) (W2)) (Q8 (H8 (zt_is  (Qw9 T.cls rfl Xd4 hr tk (P5 rfl (Q3 4) (M4 (Q3 9) (X4)))) (z_non)) (X1 (Z1 (QL7))) (W2)) (Q8 (G1 po rfl (Z4 (by rfl) T.n_range (Q0 (X4) (Q6))) (B0 14 sc.nd) B1 (Y0 [14] (X1 (H8 (D7 (C6 rfl (J9 Xh6 hr tk (by rfl) Xh5 (Q0 (QJ7 T.cls rfl Xd1 hr (P5 rfl (Q3 4) (Q3 14))) (Q0 (Qa6 rfl T.n_tuple (Q0 (P5 rfl (Q3 5) (Q3 14)) (Q6))) (Q6)))))) (X1 (Z1 (QL7))) (W2))))) (Q8 (Z3 15 sc.nd (J9 Xc4 hr tk (by rfl) Xc3 (Q0 (Q3 1) (Q0 (B7 rfl T.n_len (Q0 (Q3 2) (Q6))) (Q6))))) (Q8 (QE1 (J9 Xc4 hr tk (by rfl) Xc3 (Q0 (Q3 1) (Q0 (Q3 3) (Q6)))) (QH0 (P5 rfl (Q3 5) (M4 (Q3 9) (X4))) (Q3 15)) Qv1) (Q8 (D8 (Qn3 T.cls rfl Xd2 hr tk (P5 rfl (Q3 4) (M4 (Q3 9) (X4))) (Q0 (P5 rfl (Q3 2) (Q3 15)) (Q0 (P5 rfl (P5 rfl (Q3 5) (M4 (Q3 9) (X4))) (Q3 15)) (Q6))))) (X1 (H8 (D7 (C6 rfl (J9 Xh6 hr tk (by rfl) Xh5 (Q0 (QJ7 T.cls rfl Xd1 hr (P5 rfl (Q3 4) (M4 (Q3 9) (X4)))) (Q0 (Qa6 rfl T.n_tuple (Q0 (P5 rfl (Q3 5) (M4 (Q3 9) (X4))) (Q6))) (Q6)))))) (X1 (Z1 (QL7))) (W2))))))))))))))))) (X1 (Z1 (QL7))))))))))
def hs (c:Nat):Bool:=c == Q5 || c == X2
def hx (c:Nat):Bool:=c == X3 || c == cUnknownCell || c == cOutOfRange || c == cInvalidState
theorem txt {w:World} {K:UZ9} {h:Heap} {mg:Str->Option Value} (X:K.In h) (G:h.Ns mainGlobals mg) (c:SaysS fa exs fn st su K):Txt (gOf hs hx K w) mg where
 n_abs:=He.free_ok X G (c.fact 0 (f:=.free "abs") rfl)
 n_all:=He.free_ok X G (c.fact 1 (f:=.free "all") rfl)
 n_bool:=He.free_ok X G (c.fact 2 (f:=.free "bool") rfl)
 n_int:=He.free_ok X G (c.fact 3 (f:=.free "int") rfl)
 n_isinstance:=He.free_ok X G (c.fact 4 (f:=.free "isinstance") rfl)
 n_len:=He.free_ok X G (c.fact 5 (f:=.free "len") rfl)
 n_list:=He.free_ok X G (c.fact 6 (f:=.free "list") rfl)
 n_range:=He.free_ok X G (c.fact 7 (f:=.free "range") rfl)
 n_set:=He.free_ok X G (c.fact 8 (f:=.free "set") rfl)
 n_tuple:=He.free_ok X G (c.fact 9 (f:=.free "tuple") rfl)
 n_zip:=He.free_ok X G (c.fact 10 (f:=.free "zip") rfl)
 cls := by
   constructor
   . intro c0 h;have h:hs c0=true:=h; unfold hs at h; simp only [Bool.or_eq_true,beq_iff_eq] at h; rcases h with (h | h)
     . subst h; exact He.cls_ok (c.fact 11 (f:=.cls "Trial") rfl)
     . subst h; exact He.cls_ok (c.fact 12 (f:=.cls "Cells") rfl)
   . intro c0 f h hf;have h:hs c0=true:=h; unfold hs at h; simp only [Bool.or_eq_true,beq_iff_eq] at h; rcases h with (h | h)
     . subst h;have hf:f∈[f_cells,f_saved]:=hf;simp only [List.mem_cons,List.not_mem_nil,or_false] at hf;rcases hf with hf | hf
       . subst hf; exact He.noat_ok (c.fact 13 (f:=.noat "Trial" "cells") rfl)
       . subst hf; exact He.noat_ok (c.fact 14 (f:=.noat "Trial" "saved") rfl)
     . subst h;have hf:f∈[f_names,f_size,f_current]:=hf;simp only [List.mem_cons,List.not_mem_nil,or_false] at hf;rcases hf with hf | hf | hf
       . subst hf; exact He.noat_ok (c.fact 15 (f:=.noat "Cells" "names") rfl)
       . subst hf; exact He.noat_ok (c.fact 16 (f:=.noat "Cells" "size") rfl)
       . subst hf; exact He.noat_ok (c.fact 17 (f:=.noat "Cells" "current") rfl)
 excC:=by
   intro c0 h;have h:hx c0=true:=h; unfold hx at h; simp only [Bool.or_eq_true,beq_iff_eq] at h; rcases h with (((h | h) | h) | h)
   . subst h; exact Qg6 (c.xs 0 (f:=Qm4 "InvalidCells") rfl)
   . subst h; exact Qg6 (c.xs 1 (f:=Qm4 "UnknownCell") rfl)
   . subst h; exact Qg6 (c.xs 2 (f:=Qm4 "OutOfRange") rfl)
   . subst h; exact Qg6 (c.xs 3 (f:=Qm4 "InvalidState") rfl)
 isx_ok:=by
   intro c0 c1 h h2 bb hb;have h:hx c0=true:=h; have h2:hx c1=true:=h2; unfold hx at h h2; simp only [Bool.or_eq_true,beq_iff_eq] at h h2; rcases h with (((h | h) | h) | h) <;> rcases h2 with (((h2 | h2) | h2) | h2)
   . subst h; subst h2; have e:isx X3 X3=some true:=by decide
     rw [e] at hb; cases hb; exact K2 (c.xs 4 (f:=D3 "InvalidCells" "InvalidCells" true) rfl)
   . subst h; subst h2; have e:isx X3 cUnknownCell=some false:=by decide
     rw [e] at hb; cases hb; exact K2 (c.xs 5 (f:=D3 "InvalidCells" "UnknownCell" false) rfl)
   . subst h; subst h2; have e:isx X3 cOutOfRange=some false:=by decide
     rw [e] at hb; cases hb; exact K2 (c.xs 6 (f:=D3 "InvalidCells" "OutOfRange" false) rfl)
   . subst h; subst h2; have e:isx X3 cInvalidState=some false:=by decide
     rw [e] at hb; cases hb; exact K2 (c.xs 7 (f:=D3 "InvalidCells" "InvalidState" false) rfl)
   . subst h; subst h2; have e:isx cUnknownCell X3=some false:=by decide
     rw [e] at hb; cases hb; exact K2 (c.xs 8 (f:=D3 "UnknownCell" "InvalidCells" false) rfl)
   . subst h; subst h2; have e:isx cUnknownCell cUnknownCell=some true:=by decide
     rw [e] at hb; cases hb; exact K2 (c.xs 9 (f:=D3 "UnknownCell" "UnknownCell" true) rfl)
   . subst h; subst h2; have e:isx cUnknownCell cOutOfRange=some false:=by decide
     rw [e] at hb; cases hb; exact K2 (c.xs 10 (f:=D3 "UnknownCell" "OutOfRange" false) rfl)
   . subst h; subst h2; have e:isx cUnknownCell cInvalidState=some false:=by decide
     rw [e] at hb; cases hb; exact K2 (c.xs 11 (f:=D3 "UnknownCell" "InvalidState" false) rfl)
   . subst h; subst h2; have e:isx cOutOfRange X3=some false:=by decide
     rw [e] at hb; cases hb; exact K2 (c.xs 12 (f:=D3 "OutOfRange" "InvalidCells" false) rfl)
   . subst h; subst h2; have e:isx cOutOfRange cUnknownCell=some false:=by decide
     rw [e] at hb; cases hb; exact K2 (c.xs 13 (f:=D3 "OutOfRange" "UnknownCell" false) rfl)
   . subst h; subst h2; have e:isx cOutOfRange cOutOfRange=some true:=by decide
     rw [e] at hb; cases hb; exact K2 (c.xs 14 (f:=D3 "OutOfRange" "OutOfRange" true) rfl)
   . subst h; subst h2; have e:isx cOutOfRange cInvalidState=some false:=by decide
     rw [e] at hb; cases hb; exact K2 (c.xs 15 (f:=D3 "OutOfRange" "InvalidState" false) rfl)
   . subst h; subst h2; have e:isx cInvalidState X3=some false:=by decide
     rw [e] at hb; cases hb; exact K2 (c.xs 16 (f:=D3 "InvalidState" "InvalidCells" false) rfl)
   . subst h; subst h2; have e:isx cInvalidState cUnknownCell=some false:=by decide
     rw [e] at hb; cases hb; exact K2 (c.xs 17 (f:=D3 "InvalidState" "UnknownCell" false) rfl)
   . subst h; subst h2; have e:isx cInvalidState cOutOfRange=some false:=by decide
     rw [e] at hb; cases hb; exact K2 (c.xs 18 (f:=D3 "InvalidState" "OutOfRange" false) rfl)
   . subst h; subst h2; have e:isx cInvalidState cInvalidState=some true:=by decide
     rw [e] at hb; cases hb; exact K2 (c.xs 19 (f:=D3 "InvalidState" "InvalidState" true) rfl)
 isVE:=by
   intro c0 h;have h:hx c0=true:=h; unfold hx at h; simp only [Bool.or_eq_true,beq_iff_eq] at h; rcases h with (((h | h) | h) | h)
   . subst h; exact Qg7 (c.xs 20 (f:=Qm5 "InvalidCells" "ValueError" true) rfl)
   . subst h; exact Qg7 (c.xs 21 (f:=Qm5 "UnknownCell" "ValueError" true) rfl)
   . subst h; exact Qg7 (c.xs 22 (f:=Qm5 "OutOfRange" "ValueError" true) rfl)
   . subst h; exact Qg7 (c.xs 23 (f:=Qm5 "InvalidState" "ValueError" true) rfl)
 exc_InvalidCells:=QW2 (c.fact 18 (f:=.exc "InvalidCells") rfl)
 g_Cells:=He.glo_ok X G (c.fact 19 (f:=.glo "Cells") rfl)
 g_InvalidCells:=He.glo_ok X G (c.fact 20 (f:=.glo "InvalidCells") rfl)
 g_InvalidState:=He.glo_ok X G (c.fact 21 (f:=.glo "InvalidState") rfl)
 g_OutOfRange:=He.glo_ok X G (c.fact 22 (f:=.glo "OutOfRange") rfl)
 g_Trial:=He.glo_ok X G (c.fact 23 (f:=.glo "Trial") rfl)
 g_UnknownCell:=He.glo_ok X G (c.fact 24 (f:=.glo "UnknownCell") rfl)
 glob_LETTERS:=QX3 X G (c.fact 25 (f:=.str "LETTERS" (mkS [97,98,99,100,101,102,103,104,105,106,107,108,109,110,111,112,113,114,115,116,117,118,119,120,121,122])) rfl)
 glob_MOST_CELLS:=Qu6 X G (c.fact 26 (f:=.int "MOST_CELLS" 3) rfl)
 glob_MOST_LETTERS:=Qu6 X G (c.fact 27 (f:=.int "MOST_LETTERS" 8) rfl)
 glob_MOST_SIZE:=Qu6 X G (c.fact 28 (f:=.int "MOST_SIZE" 3) rfl)
 has_Cells:=rfl
 has_Trial:=rfl
 hit_OutOfRange:=by
   intro c0 bb h hb;have h:hx c0=true:=h; unfold hx at h; simp only [Bool.or_eq_true,beq_iff_eq] at h; rcases h with (((h | h) | h) | h)
   . subst h; have e:Qf2 cOutOfRange X3=some false:=by decide
     rw [e] at hb; cases hb; exact He.exm_ok (c.fact 29 (f:=.exm "InvalidCells" "OutOfRange" false) rfl)
   . subst h; have e:Qf2 cOutOfRange cUnknownCell=some false:=by decide
     rw [e] at hb; cases hb; exact He.exm_ok (c.fact 30 (f:=.exm "UnknownCell" "OutOfRange" false) rfl)
   . subst h; have e:Qf2 cOutOfRange cOutOfRange=some true:=by decide
     rw [e] at hb; cases hb; exact He.exm_ok (c.fact 31 (f:=.exm "OutOfRange" "OutOfRange" true) rfl)
   . subst h; have e:Qf2 cOutOfRange cInvalidState=some false:=by decide
     rw [e] at hb; cases hb; exact He.exm_ok (c.fact 32 (f:=.exm "InvalidState" "OutOfRange" false) rfl)
 hit_UnknownCell:=by
   intro c0 bb h hb;have h:hx c0=true:=h; unfold hx at h; simp only [Bool.or_eq_true,beq_iff_eq] at h; rcases h with (((h | h) | h) | h)
   . subst h; have e:Qf2 cUnknownCell X3=some false:=by decide
     rw [e] at hb; cases hb; exact He.exm_ok (c.fact 33 (f:=.exm "InvalidCells" "UnknownCell" false) rfl)
   . subst h; have e:Qf2 cUnknownCell cUnknownCell=some true:=by decide
     rw [e] at hb; cases hb; exact He.exm_ok (c.fact 34 (f:=.exm "UnknownCell" "UnknownCell" true) rfl)
   . subst h; have e:Qf2 cUnknownCell cOutOfRange=some false:=by decide
     rw [e] at hb; cases hb; exact He.exm_ok (c.fact 35 (f:=.exm "OutOfRange" "UnknownCell" false) rfl)
   . subst h; have e:Qf2 cUnknownCell cInvalidState=some false:=by decide
     rw [e] at hb; cases hb; exact He.exm_ok (c.fact 36 (f:=.exm "InvalidState" "UnknownCell" false) rfl)
 hx_InvalidCells:=rfl
 noX_cell:=by
   intro c0 h;have h:hx c0=true:=h; unfold hx at h; simp only [Bool.or_eq_true,beq_iff_eq] at h; rcases h with (((h | h) | h) | h)
   . subst h; exact He.eqO_ok (c.fact 37 (f:=.noat "InvalidCells" "cell") rfl)
   . subst h; exact He.eqO_ok (c.fact 38 (f:=.noat "UnknownCell" "cell") rfl)
   . subst h; exact He.eqO_ok (c.fact 39 (f:=.noat "OutOfRange" "cell") rfl)
   . subst h; exact He.eqO_ok (c.fact 40 (f:=.noat "InvalidState" "cell") rfl)
 noX_value:=by
   intro c0 h;have h:hx c0=true:=h; unfold hx at h; simp only [Bool.or_eq_true,beq_iff_eq] at h; rcases h with (((h | h) | h) | h)
   . subst h; exact He.eqO_ok (c.fact 41 (f:=.noat "InvalidCells" "value") rfl)
   . subst h; exact He.eqO_ok (c.fact 42 (f:=.noat "UnknownCell" "value") rfl)
   . subst h; exact He.eqO_ok (c.fact 43 (f:=.noat "OutOfRange" "value") rfl)
   . subst h; exact He.eqO_ok (c.fact 44 (f:=.noat "InvalidState" "value") rfl)
theorem law_ok {P:Program} {w:World} {K:UZ9} {h:Heap} {mg:Str->Option Value} (hTop:(P.main.scope.names.lookup ("super" : Str)).isSome=false) (hFile:P.main.file=PySem.Challenge.pw_untoldrule_k04_whole_trials.main.file) (X:K.In h) (G:h.Ns mainGlobals mg) (c:SaysS fa exs fn st su K):∃ fd,(∀ (s:Shared) (u:Value),BindsTo s fd ⟨[u],[]⟩ [("_law_script",u)]) /\ ∀ base:Heap,FnOk P w K mg base (L2.CX P w) 8 (He.ga K "law") fd ["_law_script"] (lowF (gOf hs hx K w) M_law):=by
 have T:=txt (w:=w) X G c;have TT:SupTop P mg:=⟨hTop,He.free_ok X G (c.fact 45 (f:=.free "super") rfl)⟩;obtain ⟨Xi5,Xe9⟩:=DefC.defS (P:=P) (d:=N9) (c.su_ 0 rfl).1 (c.su_ 0 rfl).2 hFile
 have X0_InvalidState:∀ base:Heap,ExT P w (gOf hs hx K w).K mg base (gOf hs hx K w) 1 cInvalidState:=fun base=>⟨⟨_,Xi5,["self", "cell"],(Qc7 (c.xs 24 (f:=QL6 "InvalidState") rfl)).1,(Qc7 (c.xs 24 (f:=QL6 "InvalidState") rfl)).2,by
   have e:(X0 cInvalidState).reverse.map fnm=(["cell"]:List Str):=by decide +kernel
   rw [e]
   exact QH4 (f1 := "cell") Xe9 TT (C9 (c.xs 25 (f:=Qk5 "InvalidState") rfl)) (He.eqO_ok (c.fact 40 (f:=.noat "InvalidState" "cell") rfl)) rfl ⟨rfl,rfl,rfl,by decide +kernel,rfl,by decide +kernel,by decide +kernel,rfl,by decide +kernel⟩ rfl (.inl rfl) (.inl rfl) ⟨_,rfl,rfl⟩,Xe9.binds fun _ _ _ _ _ _ _ us hl=>match us,hl with | [_,_],_=>rfl⟩,(C9 (c.xs 25 (f:=Qk5 "InvalidState") rfl)).ox,rfl⟩
 obtain ⟨Xj9,Xh2⟩:=DefC.defS (P:=P) (d:=E3) (c.su_ 1 rfl).1 (c.su_ 1 rfl).2 hFile
 have X0_OutOfRange:∀ base:Heap,ExT P w (gOf hs hx K w).K mg base (gOf hs hx K w) 1 cOutOfRange:=fun base=>⟨⟨_,Xj9,["self", "cell", "value"],(Qc7 (c.xs 26 (f:=QL6 "OutOfRange") rfl)).1,(Qc7 (c.xs 26 (f:=QL6 "OutOfRange") rfl)).2,by
   have e:(X0 cOutOfRange).reverse.map fnm=(["cell", "value"]:List Str):=by decide +kernel
   rw [e]
   exact QY5 (f1 := "cell") (f2 := "value") Xh2 TT (C9 (c.xs 27 (f:=Qk5 "OutOfRange") rfl)) (He.eqO_ok (c.fact 39 (f:=.noat "OutOfRange" "cell") rfl)) (He.eqO_ok (c.fact 43 (f:=.noat "OutOfRange" "value") rfl)) rfl ⟨rfl,rfl,rfl,by decide +kernel,rfl,by decide +kernel,by decide +kernel,rfl,by decide +kernel⟩ rfl (.inl rfl) (.inl rfl) (.inl rfl) ⟨_,rfl,rfl⟩,Xh2.binds fun _ _ _ _ _ _ _ us hl=>match us,hl with | [_,_,_],_=>rfl⟩,(C9 (c.xs 27 (f:=Qk5 "OutOfRange") rfl)).ox,rfl⟩
 obtain ⟨Xj3,Xg3⟩:=DefC.defS (P:=P) (d:=D6) (c.su_ 2 rfl).1 (c.su_ 2 rfl).2 hFile
 have X0_UnknownCell:∀ base:Heap,ExT P w (gOf hs hx K w).K mg base (gOf hs hx K w) 1 cUnknownCell:=fun base=>⟨⟨_,Xj3,["self", "cell"],(Qc7 (c.xs 28 (f:=QL6 "UnknownCell") rfl)).1,(Qc7 (c.xs 28 (f:=QL6 "UnknownCell") rfl)).2,by
   have e:(X0 cUnknownCell).reverse.map fnm=(["cell"]:List Str):=by decide +kernel
   rw [e]
   exact QH4 (f1 := "cell") Xg3 TT (C9 (c.xs 29 (f:=Qk5 "UnknownCell") rfl)) (He.eqO_ok (c.fact 38 (f:=.noat "UnknownCell" "cell") rfl)) rfl ⟨rfl,rfl,rfl,by decide +kernel,rfl,by decide +kernel,by decide +kernel,rfl,by decide +kernel⟩ rfl (.inl rfl) (.inl rfl) ⟨_,rfl,rfl⟩,Xg3.binds fun _ _ _ _ _ _ _ us hl=>match us,hl with | [_,_],_=>rfl⟩,(C9 (c.xs 29 (f:=Qk5 "UnknownCell") rfl)).ox,rfl⟩
 obtain ⟨Xi0,Xg4⟩:=c.def_ 0 (d:=Qh3) rfl;obtain ⟨Xj1,Xh7⟩:=c.def_ 1 (d:=Ql4) rfl;obtain ⟨Xd0,Xh8⟩:=c.def_ 2 (d:=Ql5) rfl;obtain ⟨Xi2,Xg5⟩:=c.def_ 3 (d:=Qh4) rfl;obtain ⟨Xg7,Xf0⟩:=c.def_ 4 (d:=Qd2) rfl;obtain ⟨Xg0,Xe2⟩:=c.def_ 5 (d:=G6) rfl;obtain ⟨Xg8,Xf1⟩:=c.def_ 6 (d:=Qd3) rfl;obtain ⟨Xh0,Xi3⟩:=c.def_ 7 (d:=Qd4) rfl;obtain ⟨Xi6,Xd5⟩:=c.def_ 8 (d:=N6) rfl;obtain ⟨Xf2,Xc7⟩:=DefZ.funD (d:=I5) (c.st_ 0 rfl).1 (c.st_ 0 rfl).2;obtain ⟨Xk0,Xe3⟩:=c.def_ 9 (d:=G7) rfl;obtain ⟨Xg1,Xe4⟩:=c.def_ 10 (d:=G8) rfl;obtain ⟨Xi1,Xg6⟩:=c.def_ 11 (d:=Qh5) rfl;obtain ⟨Xg2,Xe5⟩:=c.def_ 12 (d:=G9) rfl;obtain ⟨Xk5,Xj4⟩:=c.def_ 13 (d:=Qp6) rfl;obtain ⟨Xg9,Xi4⟩:=c.def_ 14 (d:=Qd5) rfl;obtain ⟨Xk1,Xe6⟩:=c.def_ 15 (d:=E1) rfl;obtain ⟨Xk2,Xe7⟩:=c.def_ 16 (d:=E2) rfl;obtain ⟨Xl5,Xf3⟩:=c.def_ 17 (d:=Qd6) rfl;obtain ⟨Xi7,Xd6⟩:=c.def_ 18 (d:=N7) rfl;obtain ⟨Xf4,Xc8⟩:=DefZ.funD (d:=I7) (c.st_ 1 rfl).1 (c.st_ 1 rfl).2;obtain ⟨Xl6,Xf5⟩:=c.def_ 19 (d:=Qd7) rfl;obtain ⟨Xh1,Xf6⟩:=c.def_ 20 (d:=Qd8) rfl;obtain ⟨Xe8,Xd7⟩:=c.def_ 21 (d:=N8) rfl;obtain ⟨Xj2,Xh9⟩:=c.def_ 22 (d:=Ql6) rfl;obtain ⟨Xj5,Xd9⟩:=c.def_ 23 (d:=D5) rfl;obtain ⟨Xq3,Xq4⟩:=c.def_ 24 (d:=Xq1) rfl;refine ⟨Xq3,fun s u=>(FunD.bindsA (ps:=["_law_script"]) Xq4 fun _ _ _ _ _ _ us hl=>match us,hl with | [_],_=>rfl) s [u] rfl,fun base=>?_⟩;have X_InvalidState:=X0_InvalidState base;have X_OutOfRange:=X0_OutOfRange base;have X_UnknownCell:=X0_UnknownCell base;have Xo7:Cal P w (gOf hs hx K w) mg base 1 "_law_mixed" ["_law_cell", "_law_k"] M_law_mixed:=⟨_,Xi0,He.glo_ok X G (c.fact 46 (f:=.glo "_law_mixed") rfl),Qs5 (k:=0) (g:=gOf hs hx K w) Xg4 T ,Xg4.kp,(Xg4.bindsN fun _ _ _ _ _ _ us hl=>match us,hl with | [_,_],_=>rfl)⟩;have Xp5:Cal P w (gOf hs hx K w) mg base 2 "_law_pool" ["_law_script"] M_law_pool:=⟨_,Xj1,He.glo_ok X G (c.fact 47 (f:=.glo "_law_pool") rfl),Qv4 (k:=1) (g:=gOf hs hx K w) Xh7 T (Xo7.mono (by decide)),Xh7.kp,(Xh7.bindsN fun _ _ _ _ _ _ us hl=>match us,hl with | [_],_=>rfl)⟩;have Xe1:Cal P w (gOf hs hx K w) mg base 1 "_law_draw" ["_law_pool_here", "_law_many"] M_law_draw:=⟨_,Xd0,He.glo_ok X G (c.fact 48 (f:=.glo "_law_draw") rfl),Qv5 (k:=0) (g:=gOf hs hx K w) Xh8 T ,Xh8.kp,(Xh8.bindsN fun _ _ _ _ _ _ us hl=>match us,hl with | [_,_],_=>rfl)⟩;have Xo8:Cal P w (gOf hs hx K w) mg base 2 "_law_names" ["_law_pool_here", "_law_count"] M_law_names:=⟨_,Xi2,He.glo_ok X G (c.fact 49 (f:=.glo "_law_names") rfl),Qs6 (k:=1) (g:=gOf hs hx K w) Xg5 T (Xe1.mono (by decide)),Xg5.kp,(Xg5.bindsN fun _ _ _ _ _ _ us hl=>match us,hl with | [_,_],_=>rfl)⟩;have Xn2:Cal P w (gOf hs hx K w) mg base 1 "valid_name" ["word"] M_valid_name:=⟨_,Xg7,He.glo_ok X G (c.fact 50 (f:=.glo "valid_name") rfl),Qo8 (k:=0) (g:=gOf hs hx K w) Xf0 T ,Xf0.kp,(Xf0.bindsN fun _ _ _ _ _ _ us hl=>match us,hl with | [_],_=>rfl)⟩;have Xl7:Cal P w (gOf hs hx K w) mg base 2 "check_names" ["names"] M_check_names:=⟨_,Xg0,He.glo_ok X G (c.fact 51 (f:=.glo "check_names") rfl),Qk7 (k:=1) (g:=gOf hs hx K w) Xe2 T (Xn2.mono (by decide)),Xe2.kp,(Xe2.bindsN fun _ _ _ _ _ _ us hl=>match us,hl with | [_],_=>rfl)⟩;have Xn3:Cal P w (gOf hs hx K w) mg base 1 "check_size" ["size"] M_check_size:=⟨_,Xg8,He.glo_ok X G (c.fact 52 (f:=.glo "check_size") rfl),Qo9 (k:=0) (g:=gOf hs hx K w) Xf1 T ,Xf1.kp,(Xf1.bindsN fun _ _ _ _ _ _ us hl=>match us,hl with | [_],_=>rfl)⟩;have Xn4:CalMk P w (gOf hs hx K w) mg base 3 X2 ["self", "names", "size"] M_Cells_init:=⟨_,Xh0,He.mkr_ok (c.fact 53 (f:=.mkr "Cells") rfl),Qp0 (k:=2) (g:=gOf hs hx K w) Xi3 T (Xl7.mono (by decide)) (Xn3.mono (by decide)),(Xi3.bindsN fun _ _ _ _ _ _ us hl=>match us,hl with | [_,_,_],_=>rfl)⟩;have Xj6:FnT P w (gOf hs hx K w).K mg base (gOf hs hx K w) 3 _ Xi6 ["self", "state"] M_Cells_checked:=⟨Qf5 (k:=1) (g:=gOf hs hx K w) Xd5 T (X_InvalidState.mono (by decide)) (X_OutOfRange.mono (by decide)),Xd5.kp,(Xd5.bindsN fun _ _ _ _ _ _ us hl=>match us,hl with | [_,_],_=>rfl)⟩
 have Xc5:MethE P w (gOf hs hx K w).K mg base (gOf hs hx K w) 3 "checked" mtSelfCells_checked:=by
   intro c0 M h1 h2;unfold mtSelfCells_checked at h2
   split at h2
   . rename_i e; subst e; cases h2;exact ⟨_,_,_,He.meth_ok (c.fact 54 (f:=.meth "Cells" "checked") rfl),FnT.mono Xj6 (by decide),by decide +kernel⟩
   . cases h2
 have Xf8:FnT P w (gOf hs hx K w).K mg base (gOf hs hx K w) 4 _ Xf2 ["self", "state"] M_Cells_contents_set:=⟨C3 (k:=3) (g:=gOf hs hx K w) Xc7 T (Xc5.mono (by decide)),Xc7.kp,(Xc7.bindsN fun _ _ _ _ _ _ us hl=>match us,hl with | [_,_],_=>rfl)⟩
 have Xh4:SetE P w (gOf hs hx K w).K mg base (gOf hs hx K w) 4 "contents" mtS_contents:=by
   intro c0 M h1 h2;unfold mtS_contents at h2
   split at h2
   . rename_i e; subst e; cases h2;exact ⟨_,_,_,_,QP2 (c.xs 30 (f:=QT7 "Cells" "contents") rfl),FnT.mono Xf8 (by decide)⟩
   . cases h2
 have Xl8:FnT P w (gOf hs hx K w).K mg base (gOf hs hx K w) 7 _ Xk0 ["self", "state"] M_Cells_reset:=⟨Qk8 (k:=4) (g:=gOf hs hx K w) Xe3 T (Xh4.mono (by decide)),Xe3.kp,(Xe3.bindsN fun _ _ _ _ _ _ us hl=>match us,hl with | [_,_],_=>rfl)⟩;have Xl9:Cal P w (gOf hs hx K w) mg base 2 "_law_strange" ["_law_pool_here", "_law_names_here"] M_law_strange:=⟨_,Xg1,He.glo_ok X G (c.fact 55 (f:=.glo "_law_strange") rfl),Qk9 (k:=1) (g:=gOf hs hx K w) Xe4 T (Xe1.mono (by decide)),Xe4.kp,(Xe4.bindsN fun _ _ _ _ _ _ us hl=>match us,hl with | [_,_],_=>rfl)⟩;have Xo9:Cal P w (gOf hs hx K w) mg base 2 "_law_value" ["_law_pool_here", "_law_size"] M_law_value:=⟨_,Xi1,He.glo_ok X G (c.fact 56 (f:=.glo "_law_value") rfl),Qs7 (k:=1) (g:=gOf hs hx K w) Xg6 T (Xe1.mono (by decide)),Xg6.kp,(Xg6.bindsN fun _ _ _ _ _ _ us hl=>match us,hl with | [_,_],_=>rfl)⟩;have Xm0:Cal P w (gOf hs hx K w) mg base 3 "_law_changes" ["_law_pool_here", "_law_names_here", "_law_size"] M_law_changes:=⟨_,Xg2,He.glo_ok X G (c.fact 57 (f:=.glo "_law_changes") rfl),Ql0 (k:=2) (g:=gOf hs hx K w) Xe5 T (Xe1.mono (by decide)) (Xl9.mono (by decide)) (Xo9.mono (by decide)),Xe5.kp,(Xe5.bindsN fun _ _ _ _ _ _ us hl=>match us,hl with | [_,_,_],_=>rfl)⟩;have Xq0:Cal P w (gOf hs hx K w) mg base 1 "_law_due" ["_law_names_here", "_law_size", "_law_model", "_law_changes_here"] M_law_due:=⟨_,Xk5,He.glo_ok X G (c.fact 58 (f:=.glo "_law_due") rfl),QB6 (k:=0) (g:=gOf hs hx K w) Xj4 T ,Xj4.kp,(Xj4.bindsN fun _ _ _ _ _ _ us hl=>match us,hl with | [_,_,_,_],_=>rfl)⟩;have Xn5:CalMk P w (gOf hs hx K w) mg base 1 Q5 ["self", "cells"] M_Trial_init:=⟨_,Xg9,He.mkr_ok (c.fact 59 (f:=.mkr "Trial") rfl),Qp1 (k:=0) (g:=gOf hs hx K w) Xi4 T ,(Xi4.bindsN fun _ _ _ _ _ _ us hl=>match us,hl with | [_,_],_=>rfl)⟩;have Xh3:FnT P w (gOf hs hx K w).K mg base (gOf hs hx K w) 3 _ Xk1 ["self"] M_Cells_trial:=⟨Ql1 (k:=1) (g:=gOf hs hx K w) Xe6 T (Xn5.mono (by decide)),Xe6.kp,(Xe6.bindsN fun _ _ _ _ _ _ us hl=>match us,hl with | [_],_=>rfl)⟩;have KT_Trial_enter:FnTC P w (gOf hs hx K w).K mg base (gOf hs hx K w) 1 _ Xk2 ["self"] M_Trial_enter:=⟨Qj7 (k:=0) (g:=gOf hs hx K w) Xe7 T ,Xe7.kp,(Xe7.bindsN fun _ _ _ _ _ _ us hl=>match us,hl with | [_],_=>rfl)⟩;have KT_Trial_exit:FnTC P w (gOf hs hx K w).K mg base (gOf hs hx K w) 1 _ Xl5 ["self", "kind", "value", "trace"] M_Trial_exit:=⟨Ql2 (k:=0) (g:=gOf hs hx K w) Xf3 T ,Xf3.kp,(Xf3.bindsN fun _ _ _ _ _ _ us hl=>match us,hl with | [_,_,_,_],_=>rfl)⟩;have Xj7:FnT P w (gOf hs hx K w).K mg base (gOf hs hx K w) 3 _ Xi7 ["self", "name", "value"] M_Cells_setitem:=⟨Qf6 (k:=1) (g:=gOf hs hx K w) Xd6 T (X_UnknownCell.mono (by decide)) (X_OutOfRange.mono (by decide)),Xd6.kp,(Xd6.bindsN fun _ _ _ _ _ _ us hl=>match us,hl with | [_,_,_],_=>rfl)⟩;have Xf9:FnT P w (gOf hs hx K w).K mg base (gOf hs hx K w) 1 _ Xf4 ["self"] M_Cells_contents_get:=⟨C4 (k:=0) (g:=gOf hs hx K w) Xc8 T ,Xc8.kp,(Xc8.bindsN fun _ _ _ _ _ _ us hl=>match us,hl with | [_],_=>rfl)⟩
 have W_Trial:WithC P w (gOf hs hx K w).K mg base (gOf hs hx K w) 1 mtWithTrial:=by
   intro c0 ME MX h1 h2;unfold mtWithTrial at h2
   split at h2
   . rename_i e; subst e; cases h2;exact ⟨_,_,_,_,_,_,He.meth_ok (c.fact 60 (f:=.meth "Trial" "__enter__") rfl),KT_Trial_enter.mono (by decide),He.meth_ok (c.fact 61 (f:=.meth "Trial" "__exit__") rfl),KT_Trial_exit.mono (by decide)⟩
   . cases h2
 have Xd1:PropE P w (gOf hs hx K w).K mg base (gOf hs hx K w) 1 "contents" mtP_contents:=by
   intro c0 M h1 h2;unfold mtP_contents at h2
   split at h2
   . rename_i e; subst e; cases h2;exact ⟨_,_,_,_,QP1 (c.xs 31 (f:=QT6 "Cells" "contents") rfl),FnT.mono Xf9 (by decide)⟩
   . cases h2
 have Xe0:OpE P w (gOf hs hx K w).K mg base (gOf hs hx K w) 3 "__setitem__" mtO_setitem:=by
   intro c0 M h1 h2;unfold mtO_setitem at h2
   split at h2
   . rename_i e; subst e; cases h2;have o0:=xOp_ok (c.xs 32 (f:=xOp "Cells" "__setitem__") rfl);exact ⟨_,_,_,He.meth_ok (c.fact 62 (f:=.meth "Cells" "__setitem__") rfl),FnT.mono Xj7 (by decide),o0.1,o0.2⟩
   . cases h2
 have Xc9:MethE P w (gOf hs hx K w).K mg base (gOf hs hx K w) 3 "trial" mtSelfCells_trial:=by
   intro c0 M h1 h2;unfold mtSelfCells_trial at h2
   split at h2
   . rename_i e; subst e; cases h2;exact ⟨_,_,_,He.meth_ok (c.fact 63 (f:=.meth "Cells" "trial") rfl),FnT.mono Xh3 (by decide),by decide +kernel⟩
   . cases h2
 have Xn6:FnT P w (gOf hs hx K w).K mg base (gOf hs hx K w) 5 _ Xl6 ["self", "changes"] M_Cells_peek:=⟨Qp2 (k:=3) (g:=gOf hs hx K w) Xf5 T (W_Trial.mono (by decide)) (Xd1.mono (by decide)) (Xe0.mono (by decide)) (Xc9.mono (by decide)),Xf5.kp,(Xf5.bindsN fun _ _ _ _ _ _ us hl=>match us,hl with | [_,_],_=>rfl)⟩
 have Xd8:MethE P w (gOf hs hx K w).K mg base (gOf hs hx K w) 5 "peek" mtCells_peek:=by
   intro c0 M h1 h2;unfold mtCells_peek at h2
   split at h2
   . rename_i e; subst e; cases h2;exact ⟨_,_,_,He.meth_ok (c.fact 64 (f:=.meth "Cells" "peek") rfl),FnT.mono Xn6 (by decide),by decide +kernel⟩
   . cases h2
 have Xn7:Cal P w (gOf hs hx K w) mg base 6 "_law_peeked" ["_law_cells", "_law_changes_here"] M_law_peeked:=⟨_,Xh1,He.glo_ok X G (c.fact 65 (f:=.glo "_law_peeked") rfl),Qp3 (k:=5) (g:=gOf hs hx K w) Xf6 T (Xd8.mono (by decide)),Xf6.kp,(Xf6.bindsN fun _ _ _ _ _ _ us hl=>match us,hl with | [_,_],_=>rfl)⟩;have Xj8:Cal P w (gOf hs hx K w) mg base 1 "_law_is_number" ["_law_actual"] M_law_is_number:=⟨_,Xe8,He.glo_ok X G (c.fact 66 (f:=.glo "_law_is_number") rfl),Qf7 (k:=0) (g:=gOf hs hx K w) Xd7 T ,Xd7.kp,(Xd7.bindsN fun _ _ _ _ _ _ us hl=>match us,hl with | [_],_=>rfl)⟩;have Xp6:Cal P w (gOf hs hx K w) mg base 2 "_law_same" ["_law_actual", "_law_due_here"] M_law_same:=⟨_,Xj2,He.glo_ok X G (c.fact 67 (f:=.glo "_law_same") rfl),Qv6 (k:=1) (g:=gOf hs hx K w) Xh9 T (Xj8.mono (by decide)),Xh9.kp,(Xh9.bindsN fun _ _ _ _ _ _ us hl=>match us,hl with | [_,_],_=>rfl)⟩;have Xk3:FnT P w (gOf hs hx K w).K mg base (gOf hs hx K w) 5 _ Xj5 ["self", "name", "value"] M_Cells_change:=⟨Qj9 (k:=3) (g:=gOf hs hx K w) Xd9 T (Xe0.mono (by decide)),Xd9.kp,(Xd9.bindsN fun _ _ _ _ _ _ us hl=>match us,hl with | [_,_,_],_=>rfl)⟩
 have Xd3:MethE P w (gOf hs hx K w).K mg base (gOf hs hx K w) 7 "reset" mtCells_reset:=by
   intro c0 M h1 h2;unfold mtCells_reset at h2
   split at h2
   . rename_i e; subst e; cases h2;exact ⟨_,_,_,He.meth_ok (c.fact 68 (f:=.meth "Cells" "reset") rfl),FnT.mono Xl8 (by decide),by decide +kernel⟩
   . cases h2
 have Xd4:MethE P w (gOf hs hx K w).K mg base (gOf hs hx K w) 3 "trial" mtCells_trial:=by
   intro c0 M h1 h2;unfold mtCells_trial at h2
   split at h2
   . rename_i e; subst e; cases h2;exact ⟨_,_,_,He.meth_ok (c.fact 63 (f:=.meth "Cells" "trial") rfl),FnT.mono Xh3 (by decide),by decide +kernel⟩
   . cases h2
 have Xd2:MethE P w (gOf hs hx K w).K mg base (gOf hs hx K w) 5 "change" mtCells_change:=by
   intro c0 M h1 h2;unfold mtCells_change at h2
   split at h2
   . rename_i e; subst e; cases h2;exact ⟨_,_,_,He.meth_ok (c.fact 69 (f:=.meth "Cells" "change") rfl),FnT.mono Xk3 (by decide),by decide +kernel⟩
   . cases h2
 exact Xq2 (k:=6) (g:=gOf hs hx K w) Xq4 T (Xp5.mono (by decide)) (Xo8.mono (by decide)) (Xe1.mono (by decide)) (Xn4.mono (by decide)) (Xm0.mono (by decide)) (Xq0.mono (by decide)) (Xn7.mono (by decide)) (Xp6.mono (by decide)) (Xd1.mono (by decide)) (Xd3.mono (by decide)) (Xd4.mono (by decide)) (Xd2.mono (by decide))
end Zl
end
section
open PySem PySem.W PySem.Calls PyProof.Rows
theorem Zl.finL (lt:∀ ns:List Int,ns.length<=63 -> ∃ zh,Zl.M_law [.d (.scr (ns.map Zl.D.int))] [] = .ok (.d (.bl true)) zh):PySem.Challenge.rw_untoldrule_k04_whole_trials.Holds:=by
 w_on; o_law
 refine HandSHeadRun.head_any (r:=OpenLaw.row PySem.Challenge.rw_untoldrule_k04_whole_trials) (q:=view (OpenLaw.row PySem.Challenge.rw_untoldrule_k04_whole_trials).prog [29]) (H:=Zl.hk) (ob:=Zl.ob) (M:=8000) (loose:=Zl.names) (d:=HandSHeadRun.topDef (OpenLaw.row PySem.Challenge.rw_untoldrule_k04_whole_trials).prog 29) (kwd:=[]) Zl.ob_eq
   (by kernel_rfl) (fun s=>by kernel_rfl) Zl.run (by kernel_rfl) (by kernel_rfl) (by kernel_rfl) (by rfl) (by first | assumption | decide +kernel) (by decide +kernel) ⟨rfl,rfl,rfl,rfl,rfl,by decide +kernel⟩ ?hw ?hc
 case hw=>w_witness2
 case hc =>
   refine L2.walk_ofE (l:=PySem.Challenge.rw_untoldrule_k04_whole_trials) (n:=63) (k:=8) (x := "_law_script") (CX:=L2.CX0) rfl (by decide) (by kernel_rfl) ⟨rfl,by decide,by decide⟩ ?F (fun _ _ _ _ z=>z);intro w mg fa h Y G hmg0;obtain ⟨K,KX,c⟩:=Y
   have hmg:mg ("law" : PySem.Str)=some (.ref fa):=by
     have e:(HandSHeadRun.topDef (OpenLaw.row PySem.Challenge.rw_untoldrule_k04_whole_trials).prog 29).name=("law" : PySem.Str):=by kernel_rfl
     rw [<- e];exact hmg0
   have e:=hmg.symm.trans (He.glo_ok KX G (c.fact 70 (f:=.glo "law") rfl));cases e;obtain ⟨fd,hb,hF⟩:=Zl.law_ok (P:=(PySem.Challenge.rw_untoldrule_k04_whole_trials).prog) (w:=w) (by kernel_rfl) (by kernel_rfl) KX G c;exact ⟨K,fd,fun vs H Q _=>Zl.lowF (Zl.gOf Zl.hs Zl.hx K w) Zl.M_law vs H Q fun _ _ _=>False,KX,hb,fun H a ns hl _ hS=>Zl.law_sp hS (lt ns hl),fun base _ _=>Zl.fnOk0 (hF base)⟩
end
section
namespace Zl
open PySem PySem.Spec PyProof.Rows L2
section
variable {g:G} {F:Fr} {X:Cx} {W:WX} {e:Expr} {da:DE} {pos:Pos}
end
section
variable {QZ:Z->ZH->Prop} {E:ZX->ZH->Prop} {s:ZS} {h:ZH} {da:DE}
end
section
variable {P:Program} {w:World} {K:UZ9} {mg:Str->Option Value} {base:Heap} {D f:Addr} {name qual x m n1:Str} {b:Bool} {params:Arguments} {body:List Stmt} {scope:Scope} {fd:FuncData} {ps:List Str}
end
structure MkTf (P:Program) (w:World) (K:UZ9) (mg:Str->Option Value) (base:Heap) (g:G) (k:Nat) (C f:Addr) (fd:FuncData) (ps:List Str) (M:Sem):Prop where
 mks:Mk K C f
 ok:FnOk P w K mg base (L2.CX P w) k f fd ps (lowF g M)
 bi:∃ ds,Vals [V.bl false] ds/\Binds K fd ps ds
def CalMkf (P:Program) (w:World) (g:G) (mg:Str->Option Value) (base:Heap) (k:Nat) (c:Nat) (ps:List Str) (M:Sem):Prop:=∃ f fd,MkTf P w g.K mg base g k (g.cad c) f fd ps M
theorem CalMkf.mono {P:Program} {w:World} {g:G} {mg:Str->Option Value} {base:Heap} {j k:Nat} {c:Nat} {ps:List Str} {M:Sem} (T:CalMkf P w g mg base k c ps M) (h:k<=j):CalMkf P w g mg base j c ps M :=
 let ⟨f,fd,a,b,d⟩:=T; ⟨f,fd,a,⟨b.len,fun A outer s H args us vs Q E hr=>b.run A outer s H args us vs Q E (hr.mono h)⟩,d⟩
section
variable {X:Cx} {CX:CXT} {k:Nat} {f C:Addr} {fd:FuncData} {ps:List Str} {sp:Sp} {dvs:List V} {ds:List Value} {E:L2.St->XK} {x:Str} {p pos:Pos} {t:TA} {e:Expr} {es:List Expr}
end
section
variable {g:G} {F:Fr} {X:Cx} {W:WX} {e:Expr} {es:List Expr} {pos:Pos}
end
theorem PK.imp {X:Cx} {kws:List Keyword} {t t':TA} (h:PK X kws t) (k:∀ σ H Q,t' σ H Q->t σ H Q):PK X kws t':=⟨fun pos pins s σ H Q I q=>h.run pos pins s σ H Q I (k σ H Q q)⟩
section
variable {g:G} {F:Fr} {X:Cx} {W:WX} {e:Expr} {es:List Expr} {kws:List Keyword} {d dk dr:DA} {da:DE} {nm:Option Str} {kpos:Pos}
def SupEK (P:Program) (w:World) (K:UZ9) (mg:Str->Option Value) (base:Heap) (g:G) (k:Nat) (D:Addr) (m:Str) (n:Nat) (ks:List Str) (mt:Nat->Option Sem):Prop :=
 ∀ c M,g.has c=true->mt c=some M -> ∃ f fd ps,PySem.W.ks_superIn K (g.cad c) D m=some (some (.ref f))/\PySem.W.typeIn K (.ref f)=some (.type "function")/\PySem.W.fnIn K f=true/\PySem.W.mroIn K (g.cad c) (.ref D)=some true/\PySem.W.nsIn K cStatics "thirdparty.any" = some none /\
   FnOk P w K mg base (L2.CX P w) k f fd ps (lowF g M)/\KBn K fd ps (n+1) ks (fun us ws=>us++ws) (fun vs zs=>vs++zs)
theorem SupEK.mono {P:Program} {w:World} {K:UZ9} {mg:Str->Option Value} {base:Heap} {j k n:Nat} {D:Addr} {m:Str} {ks:List Str} {mt:Nat->Option Sem} (T:SupEK P w K mg base g j D m n ks mt) (h:j<=k):SupEK P w K mg base g k D m n ks mt:=fun c M h1 h2 =>
 let ⟨f,fd,ps,a,b,d,e,x,y,z⟩:=T c M h1 h2; ⟨f,fd,ps,a,b,d,e,x,⟨y.len,fun A outer s H args us vs Q E hr=>y.run A outer s H args us vs Q E (hr.mono h)⟩,z⟩
end
section
variable {K:KS} {s:ZS} {h:ZH} {d dk:DA}
end
end Zl
end
section
namespace LzG
open PySem
def poison:GenState->GenState
 | .suspended _ l c p fs cl=>.suspended (fun _=>.unsupported "asleep") l c p fs cl
 | x=>x
theorem Qv7 (x:GenState):(poison x).seen=x.seen:=by cases x <;> rfl
theorem Qv8 (x:GenState):(poison x).bare=x.bare:=by cases x <;> rfl
def Asleep (x:GenState):Prop:=∃ k l c p fs cl,x = .suspended k l c p fs cl
def FrOk (x:GenState):Prop:=∀ k l c p fs cl,x = .suspended k l c p fs cl->splitAtGen fs=none
structure Pz (P:Nat->Option GenState) (a b:Array GenState):Prop where
 size:a.size=b.size
 hid:∀ i gs,P i=some gs->b[i]? = some gs/\Asleep gs/\a[i]? = some (poison gs)
 same:∀ i,P i=none->a[i]? = b[i]? /\ ∀ x,a[i]? = some x->FrOk x
section
variable {M:Model} {P:Nat->Option GenState}
theorem Pz.at_ {a b:Array GenState} (h:Pz P a b) {g:Nat} {st:GenState} (e:a[g]? = some st):∃ st',b[g]? = some st'/\st'.seen=st.seen/\(P g=none->st'=st/\FrOk st):=by
 cases k:P g with
 | none =>
   obtain ⟨h1,h2⟩:=h.same g k;exact ⟨st,by rw [<- h1]; exact e,rfl,fun _=>⟨rfl,h2 st e⟩⟩
 | some gs =>
   obtain ⟨h1,h2,h3⟩:=h.hid g gs k;rw [h3] at e;cases e;exact ⟨gs,h1,(Qv7 gs).symm,fun z=>by cases z⟩
theorem Pz.set {a b:Array GenState} (h:Pz P a b) {g:Nat} {x:GenState} (k:P g=none) (hx:FrOk x):Pz P (a.setIfInBounds g x) (b.setIfInBounds g x):=by
 refine ⟨by simp [h.size],fun i gs e=>?_,fun i e=>?_⟩
 . have hne:g≠i:=fun z=>by rw [z] at k; rw [k] at e; cases e
   obtain ⟨h1,h2,h3⟩:=h.hid i gs e;rw [Array.getElem?_setIfInBounds_ne hne,Array.getElem?_setIfInBounds_ne hne];exact ⟨h1,h2,h3⟩
 . obtain ⟨h1,h2⟩:=h.same i e
   by_cases hg:g=i
   . subst hg
     by_cases hl:g<a.size
     . have hl2:g<b.size:=by rw [<- h.size]; exact hl
       rw [Array.getElem?_setIfInBounds_self_of_lt hl,Array.getElem?_setIfInBounds_self_of_lt hl2];exact ⟨rfl,fun y hy=>by cases hy; exact hx⟩
     . rw [Array.setIfInBounds_eq_of_size_le (by omega),Array.setIfInBounds_eq_of_size_le (by rw [<- h.size]; omega)];exact ⟨h1,h2⟩
   . rw [Array.getElem?_setIfInBounds_ne hg,Array.getElem?_setIfInBounds_ne hg];exact ⟨h1,h2⟩
theorem Pz.push {a b:Array GenState} (h:Pz P a b) {x:GenState} (hx:FrOk x):Pz P (a.push x) (b.push x):=by
 have key:∀ i gs,P i=some gs->i<a.size:=fun i gs e=>by
   obtain ⟨h1,_,h3⟩:=h.hid i gs e;exact (Array.getElem?_eq_some_iff.mp h3).1
 refine ⟨by simp [h.size],fun i gs e=>?_,fun i e=>?_⟩
 . have hi:=key i gs e;obtain ⟨h1,h2,h3⟩:=h.hid i gs e;have hb:i<b.size:=by rw [<- h.size]; exact hi
   rw [Array.getElem?_push_lt hb,Array.getElem?_push_lt hi,<- Array.getElem?_eq_getElem hb,<- Array.getElem?_eq_getElem hi];exact ⟨h1,h2,h3⟩
 . obtain ⟨h1,h2⟩:=h.same i e;rw [Array.getElem?_push,Array.getElem?_push,<- h.size]
   split
   . exact ⟨rfl,fun y hy=>by cases hy; exact hx⟩
   . exact ⟨h1,h2⟩
def EndOk (e:End):Prop:=∀ v g l k c p fs,e = .susp v g l k c p fs->splitAtGen fs=none
theorem EndOk.fr {e:End} (h:EndOk e):FrOk e.genState:=by
 cases e with
 | ret r=>intro k l c p fs cl z; cases z
 | susp v g l k c p fs=>intro k' l' c' p' fs' cl z; cases z; exact h _ _ _ _ _ _ _ rfl
end
def sleepers (G:Array GenState) (i:Nat):Option GenState:=match G[i]? with
 | some (.suspended k l c p fs cl)=>some (.suspended k l c p fs cl)
 | _=>none
theorem bare_map {G:Array GenState} (h:∀ x∈G,x.bare=true):∀ x∈G.map poison,x.bare=true:=fun x hx=>by
 obtain ⟨y,hy,rfl⟩:=Array.mem_map.mp hx;rw [Qv8];exact h y hy
end LzG
end
section
namespace PySem
open Sem (wp)
def SegX (M:Model) (A:Around) (Φ:End->Shared->Prop) (c:Code) (t:Sem Fin) (fs:List Frame) (s:Shared):Prop :=
 ∀ Γ p,Γ.code=c->Γ.Woken A -> ∃ e s',Runs M Γ p t fs s e s'/\Φ e s'
section
variable {M:Model} {A:Around} {Φ:End->Shared->Prop} {c:Code} {fs:List Frame} {s:Shared} {env:Env}
 {K:Flow->Sem Fin} {H:Value->Sem Fin} {gd:Bool->Bool} {lv:List Value->List Value}
end
section
variable {prog:Program} {w:World} {A:Around} {Φ:End->Shared->Prop} {fs:List Frame} {s:Shared} {env:Env}
end
section
variable {M:Model} {A:Around} {Φ:End->Shared->Prop} {c:Code} {fs:List Frame} {s:Shared} {env:Env}
 {K:Flow->Sem Fin} {H:Value->Sem Fin} {gd:Bool->Bool} {lv:List Value->List Value}
end
end PySem
end
section
namespace L2
open PySem PySem.Spec PyProof.Rows GenW
structure Ix where
 s:Shared
 H:Hp
 pn:List (Addr × Obj)
structure Fam where
 X:Cx
 n:Nat
 xe:Ix->Value->Shared->Prop
def Fam.at (φ:Fam) (i:Ix):Cx:={ φ.X with s_0:=i.s,H_0:=i.H,pn:=i.pn,xe:=φ.xe i }
def Fam.ok (φ:Fam) (i:Ix):Prop:=i.s.heap.objs.size=φ.n
def Dj (φ:Fam) (i:Ix) (ip:List (Addr × Obj)):Prop:=(∀ q∈i.pn,∀ r∈ip,q.1≠r.1) /\ ∀ r∈ip,φ.n<=r.1
structure Pro (Λ:Type) where
 P:Nat->Λ->V->Hp->Prop
 W:Λ->Hp->Λ->Hp->Prop
section
variable {Λ:Type}
def LPhi (φ:Fam) (p:Pro Λ) (fin:Nat->Λ->Hp->Prop) (A:Around):Nat->Nat->Λ->Ix->End->Shared->Prop
 | n,j,l,i,.ret r,s=>(r = .ok (.ret .none)\/r = .ok .next) /\ ∃ ip σ H,Dj φ i ip/\Inv (φ.at i) ip σ H s/\fin j l H
 | n,j,l,i,.susp v g lv k c q fs,s=>(End.susp v g lv k c q fs).quiet=true /\ ∃ x ip σ H,Dj φ i ip/\Inv (φ.at i) ip σ H s/\RelV x v/\p.P j l x H /\
   match n with
   | 0=>False
   | m+1=>∀ s' l2 i2,φ.ok i2->Dj φ i2 ip->Inv (φ.at i2) ip σ i2.H s'->p.W l H l2 i2.H->SegX (model φ.X.prog φ.X.w) A (LPhi φ p fin A m (j+1) l2 i2) c (k (.send .none)) fs s'
structure LEnds (Λ:Type) where
 nx:Nat->Λ->St->Hp->Prop
 rt:Nat->Λ->VK
 bk:Nat->Λ->St->Hp->Prop:=fun _ _ _ _=>False
 ct:Nat->Λ->St->Hp->Prop:=fun _ _ _ _=>False
abbrev TL (Λ:Type):=LEnds Λ->Nat->Λ->St->Hp->Prop
def LEnds.at (D:LEnds Λ) (j:Nat) (l:Λ):Ends:={ nx:=D.nx j l,rt:=D.rt j l,bk:=D.bk j l,ct:=D.ct j l }
structure LC (φ:Fam) (A:Around) (c:Code) (fs:List Frame) (gd:Bool->Bool):Prop where
 over:A.over c fs=φ.X.A
 split:splitAtGen fs=none
 guard:fs.any Frame.guarded=false
 gd:gd false=false
structure LK (φ:Fam) (p:Pro Λ) (N:Nat) (fin:Nat->Λ->Hp->Prop) (ip:List (Addr × Obj)) (A:Around) (c:Code) (fs:List Frame) (K:Flow->Sem PySem.Fin) (J:Value->Sem PySem.Fin) (D:LEnds Λ):Prop where
 ok:∀ (n j:Nat) (l:Λ) (i:Ix) (s:Shared) (f:Flow),n+j=N->φ.ok i->Dj φ i ip->SP (φ.at i) ip (D.at j l) f s->SegX (model φ.X.prog φ.X.w) A (LPhi φ p fin A n j l i) c (K f) fs s
 exc:∀ (n j:Nat) (l:Λ) (i:Ix) (e:Value) (s:Shared),φ.ok i->φ.xe i e s->SegX (model φ.X.prog φ.X.w) A (LPhi φ p fin A n j l i) c (J e) fs s
structure LS (φ:Fam) (p:Pro Λ) (N:Nat) (fin:Nat->Λ->Hp->Prop) (st:Stmt) (t:TL Λ):Prop where
 run:∀ (A:Around) (ip:List (Addr × Obj)) (n j:Nat) (l:Λ) (i:Ix) (c:Code) (fs:List Frame) (K:Flow->Sem PySem.Fin) (J:Value->Sem PySem.Fin) (gd:Bool->Bool) (lv:List Value->List Value) (s:Shared) (σ:St) (H:Hp) (D:LEnds Λ),
   LC φ A c fs gd->n+j=N->LK φ p N fin ip A c fs K J D->φ.ok i->Dj φ i ip->Inv (φ.at i) ip σ H s->t D j l σ H ->
   SegX (model φ.X.prog φ.X.w) A (LPhi φ p fin A n j l i) c ((exec st φ.X.env).wrap K J gd lv) fs s
structure LSs (φ:Fam) (p:Pro Λ) (N:Nat) (fin:Nat->Λ->Hp->Prop) (st:List Stmt) (t:TL Λ):Prop where
 run:∀ (A:Around) (ip:List (Addr × Obj)) (n j:Nat) (l:Λ) (i:Ix) (c:Code) (fs:List Frame) (K:Flow->Sem PySem.Fin) (J:Value->Sem PySem.Fin) (gd:Bool->Bool) (lv:List Value->List Value) (s:Shared) (σ:St) (H:Hp) (D:LEnds Λ),
   LC φ A c fs gd->n+j=N->LK φ p N fin ip A c fs K J D->φ.ok i->Dj φ i ip->Inv (φ.at i) ip σ H s->t D j l σ H ->
   SegX (model φ.X.prog φ.X.w) A (LPhi φ p fin A n j l i) c ((execs st φ.X.env).wrap K J gd lv) fs s
variable {φ:Fam} {p:Pro Λ} {N:Nat} {fin:Nat->Λ->Hp->Prop} {st:Stmt} {rest:List Stmt}
theorem LS.imp {t t':TL Λ} (h:LS φ p N fin st t) (k:∀ D j l σ H,t' D j l σ H->t D j l σ H):LS φ p N fin st t' :=
 ⟨fun A ip n j l i c fs K J gd lv s σ H D g hn kk ho dj hI ht=>h.run A ip n j l i c fs K J gd lv s σ H D g hn kk ho dj hI (k D j l σ H ht)⟩
theorem LSs.imp {t t':TL Λ} (h:LSs φ p N fin rest t) (k:∀ D j l σ H,t' D j l σ H->t D j l σ H):LSs φ p N fin rest t' :=
 ⟨fun A ip n j l i c fs K J gd lv s σ H D g hn kk ho dj hI ht=>h.run A ip n j l i c fs K J gd lv s σ H D g hn kk ho dj hI (k D j l σ H ht)⟩
end
end L2
end
section
namespace L2
open PySem PySem.Spec PyProof.Rows GenW
def hT (h:Heap) (n:Nat):Heap:={ h with objs:=h.objs.extract 0 n }
theorem QK8 {h:Heap} {n b:Nat} (hb:b<n):(hT h n).get? b=h.get? b:=by
 have e:(h.objs.extract 0 n)[b]? = h.objs[b]?:=by
   rw [Array.getElem?_extract];simp only [Nat.sub_zero,Nat.zero_add]
   by_cases hs:b<h.objs.size
   . rw [if_pos (by omega)]
   . rw [if_neg (by omega),Array.getElem?_eq_none (by omega)]
 unfold Heap.get? hT;dsimp only;rw [e]
theorem FunFrames.hT {h base:Heap} {n:Nat}:∀ {l:List Env},h.FunFrames base l->(∀ b∈frs l,b<n)->(L2.hT h n).FunFrames base l
 | [],_,_=>trivial
 | env::r,⟨hk,⟨L,o,hf,hn,ho,hd⟩,hr⟩,hs=>by
   have hL:L<n:=hs L (by unfold frs; rw [List.filterMap_cons,hf]; exact Xr1);exact ⟨hk,⟨L,o,hf,hn,(QK8 hL).trans ho,hd⟩,FunFrames.hT hr fun b hb=>hs b (by unfold frs; rw [List.filterMap_cons,hf]; exact Xq9 _ hb)⟩
structure FR (X:Cx) (φ:Fam):Prop where
 prog:φ.X.prog=X.prog
 w:φ.X.w=X.w
 base:φ.X.base=X.base
 outer:φ.X.outer=X.stack
 ex:φ.X.ex=[]
 nocell:∀ x,φ.X.env.cells.lookup x=none
 lc:φ.n<=φ.X.env.locals
 s0:X.s_0.heap.objs.size<=φ.n
 loc:X.env.locals<φ.n
 cel:∀ x c,X.env.cells.lookup x=some c->c<φ.n
 ok0:∃ i,φ.ok i/\(φ.at i).Ok
theorem FR.fr {X:Cx} {φ:Fam} (r:FR X φ):∀ b∈frs X.stack,b<φ.n:=fun b hb=>by
 obtain ⟨i,ho,k⟩:=r.ok0
 have hb':b∈frs (φ.at i).outer:=by
   show b∈frs φ.X.outer;rw [r.outer]; exact hb
 obtain ⟨_,o,e,_⟩:=k.funs.mem hb';have:=Heap.lt_size e;have ho:i.s.heap.objs.size=φ.n:=ho;show b<φ.n;rw [<- ho]; exact this
structure Zz (φ:Fam) (ip:List (Addr × Obj)) (σ:St) (oL:Obj) (h:Heap):Prop where
 at_:h.get? φ.X.env.locals=some oL
 dat:∀ v,oL.data ≠ .cell v
 loc:∃ m,h.Ns φ.X.env.locals m /\ ∀ (i:Nat) (x:Str) (v:V),φ.X.N[i]? = some x->σ[i]? = some (some v)->Vis φ.X.env.scope x -> ∃ u,RelV v u/\φ.X.env.kindOf x=some .local/\m x=some u
 ips:∀ p∈ip,h.get? p.1=some p.2/\p.1≠φ.X.env.locals/\p.1∉φ.X.fs /\ ∀ v,p.2.data ≠ .cell v
 len:σ.length=φ.X.N.length
section
variable {X:Cx} {φ:Fam} {ip pins:List (Addr × Obj)} {σ σc:St} {oL:Obj} {h h':Heap} {s s1:Shared} {H H1:Hp}
abbrev zpl (φ:Fam) (oL:Obj) (ip:List (Addr × Obj)):List (Addr × Obj):=(φ.X.env.locals,oL)::ip
theorem Zz.keep (Z:Zz φ ip σ oL h) (k:∀ p∈zpl φ oL ip,h'.get? p.1=some p.2):Zz φ ip σ oL h':=by
 have kL:h'.get? φ.X.env.locals=some oL:=k (φ.X.env.locals,oL) Xr1;refine ⟨kL,Z.dat,?_,fun p hp=>⟨k p (Xq9 _ hp),(Z.ips p hp).2⟩,Z.len⟩;obtain ⟨m,⟨o,es,ep,ho,r⟩,q⟩:=Z.loc;rw [Z.at_] at ho;cases ho;exact ⟨m,⟨oL,es,ep,kL,r⟩,q⟩
theorem Zz.of {i:Ix} (hc:∀ x,φ.X.env.cells.lookup x=none) (J:Inv (φ.at i) ip σ H s):∃ oL,Zz φ ip σ oL s.heap/\H φ.X.env.locals=none:=by
 obtain ⟨m,hn,q⟩:=J.loc;obtain ⟨o,es,ep,ho,hd,r⟩:=id hn;refine ⟨o,⟨ho,fun v z=>(by rw [hd] at z; cases z),⟨m,hn,fun i x v e1 e2 e3=>?_⟩,fun p hp=>?_,J.len⟩,J.free⟩
 . obtain ⟨u,ru,l⟩:=q i x v e1 e2 e3;rcases l with ⟨k1,k2⟩ | ⟨_,c,e,_⟩
   . exact ⟨u,ru,k1,k2⟩
   . have e:φ.X.env.cells.lookup x=some c:=e;rw [hc x] at e; cases e
 . obtain ⟨a,_,b,c,d⟩:=J.pin p (List.mem_append_right _ hp);exact ⟨a,b,c,d⟩
def Apt (ps pl:List (Addr × Obj)):Prop:=∀ q∈ps,∀ r∈pl,q.1≠r.1
abbrev ixOf (X:Cx) (φ:Fam) (pins:List (Addr × Obj)) (s:Shared) (H:Hp):Ix:=⟨{ s with heap:=hT s.heap φ.n },H,X.pn++pins⟩
theorem Inv.behind (r:FR X φ) (I:Inv X pins σc H s) {ip1:List (Addr × Obj)} {σ1:St} (J:Inv (φ.at (ixOf X φ pins s H)) ip1 σ1 H1 s1):Inv X pins σc H1 s1:=by
 have hex:∀ b,b∉(φ.at (ixOf X φ pins s H)).ex:=fun b hb=>by
   have hb:b∈φ.X.ex:=hb;rw [r.ex] at hb; cases hb
 have pinJ:∀ p∈X.pn++pins,s1.heap.get? p.1=some p.2/\H1 p.1=none:=fun p hp =>
   let z:=J.pin p (List.mem_append_left _ hp)
   ⟨z.1,z.2.1⟩
 have hok:HOk X.prog X.w H1 s1.heap:=by
   have:=J.hok;rw [<- r.prog,<- r.w]; exact this
 have hfs:∀ b,b∈frs X.stack↔b∈(φ.at (ixOf X φ pins s H)).fs:=fun b=>by
   show b∈frs X.stack↔b∈frs φ.X.outer;rw [r.outer]
 have dec:∀ b o,s.heap.get? b=some o->b∉(List.range s.heap.objs.size).filter (fun b=>decide (φ.n<=b) && !decide (b∈(X.pn++pins).map (·.1)))->b<φ.n \/ ∃ p∈X.pn++pins,p.1=b:=fun b o e hb=>by
   by_cases hn:b<φ.n
   . exact .inl hn
   . refine .inr ?_
     by_cases hm:b∈(X.pn++pins).map (·.1)
     . obtain ⟨p,hp,q⟩:=List.mem_map.mp hm;exact ⟨p,hp,q⟩
     . exact (hb (List.mem_filter.mpr ⟨List.mem_range.mpr (Heap.lt_size e),by simp only [Bool.and_eq_true,decide_eq_true_eq,Bool.not_eq_true',decide_eq_false_iff_not]; exact ⟨Nat.le_of_not_lt hn,hm⟩⟩)).elim
 refine I.call' (ch:=(List.range s.heap.objs.size).filter fun b=>decide (φ.n<=b) && !decide (b∈(X.pn++pins).map (·.1))) J.os ⟨fun b o e n hb hx=>?_,fun b o e n hb hx=>?_,fun b o e n hx=>?_,fun b o e hx=>?_,J.base.tups,J.base.frzs,J.base.tbls⟩ hok J.bare fun b hb=>?_
 . rcases dec b o e hx with q | ⟨p,hp,rfl⟩
   . exact J.base.keep b o ((QK8 q).trans e) n (fun z=>hb ((hfs b).mpr z)) (hex b)
   . have:=(I.pin p hp).1;rw [e] at this; cases this;exact (pinJ p hp).1
 . have q:b<φ.n:=r.fr b hb;exact J.base.slot b o ((QK8 q).trans e) n ((hfs b).mp hb) (hex b)
 . rcases dec b o e hx with q | ⟨p,hp,rfl⟩
   . exact J.base.free b o ((QK8 q).trans e) n (hex b)
   . exact (pinJ p hp).2
 . rcases dec b o e hx with q | ⟨p,hp,rfl⟩
   . exact J.base.there b o ((QK8 q).trans e) (hex b)
   . exact ⟨_,(pinJ p hp).1⟩
 . obtain ⟨_,hb⟩:=List.mem_filter.mp hb;simp only [Bool.and_eq_true,decide_eq_true_eq,Bool.not_eq_true',decide_eq_false_iff_not] at hb;obtain ⟨hb,hm⟩:=hb;refine ⟨.inr (Nat.le_trans r.s0 hb),fun z=>?_,fun x c e z=>?_,fun p hp z=>hm (List.mem_map.mpr ⟨p,hp,z⟩)⟩
   . have:=r.loc;rw [z] at hb; exact absurd (Nat.lt_of_lt_of_le this hb) (Nat.lt_irrefl _)
   . have:=r.cel x c e;rw [z] at this; exact absurd (Nat.lt_of_lt_of_le this hb) (Nat.lt_irrefl _)
end
end L2
end
section
namespace L2
open PySem PySem.Spec PyProof.Rows GenW
section
variable {P:Program} {w:World} {A:Around} {E:Value->Shared->Prop} {s:Shared}
end
section
variable {X:Cx} {pins pl:List (Addr × Obj)} {σ:St} {H:Hp} {s:Shared}
theorem Inv.gens (I:Inv X pins σ H s) {G:Array GenState} (h:AllBare G):Inv X pins σ H { s with gens:=G } :=
 ⟨I.ok,I.os,h,I.base,I.loc,I.cell,I.free,I.freeC,I.pin,I.hok,I.len⟩
theorem Inv.poison (I:Inv X pins σ H s):Inv X pins σ H { s with gens:=s.gens.map LzG.poison }:=I.gens (LzG.bare_map I.bare)
structure TurnL (X:Cx) {Λ:Type} (tg:Expr) (it:Addr) (n:Nat) (Wk:Nat->Λ->Hp->Λ->Hp->Prop) (Yl:Nat->Λ->V->Hp->Prop) (Fin:Λ->Hp->Prop) (tn:Nat->Λ->Hp->List (Addr × Obj)->Shared->Prop):Prop where
 item : ∀ (i:Nat) (l:Λ) (H1:Hp) (pl pins:List (Addr × Obj)) (s:Shared) (σ:St) (l2:Λ) (H:Hp) (E:Value->Shared->Prop),i<n->Inv X (pins++pl) σ H s->Apt (X.pn++pins) pl->tn i l H1 pl s->Wk i l H1 l2 H ->
   wpAny (model X.prog X.w) X.A (pyNext (.ref it)) (fun r s1=>∃ u,r=some u /\
     wpAny (model X.prog X.w) X.A (letOwnedTupleGo tg (.ref it) u) (fun _ s2=>∃ x H' pl',Inv X (pins++pl') σ H' s2/\Apt (X.pn++pins) pl'/\RelV x u/\Yl i l2 x H'/\tn (i+1) l2 H' pl' s2) E s1) E s
 done:∀ (l:Λ) (H1:Hp) (pl pins:List (Addr × Obj)) (s:Shared) (σ:St) (l2:Λ) (H:Hp) (E:Value->Shared->Prop),Inv X (pins++pl) σ H s->Apt (X.pn++pins) pl->tn n l H1 pl s->Wk n l H1 l2 H ->
   wpAny (model X.prog X.w) X.A (pyNext (.ref it)) (fun r s1=>r=none /\ ∃ H',Inv X pins σ H' s1/\Fin l2 H') E s
 keep:∀ (i:Nat) (l:Λ) (H1:Hp) (pl:List (Addr × Obj)) (s s':Shared),tn (i+1) l H1 pl s->(∀ p∈pl,s'.heap.get? p.1=some p.2)->(∀ g gs,LzG.sleepers s.gens g=some gs->s'.gens[g]? = some gs)->tn (i+1) l H1 pl s'
abbrev RIL:={Λ:Type}->Nat->(Nat->Λ->Hp->Λ->Hp->Prop)->(Nat->Λ->V->Hp->Prop)->(Λ->Hp->Prop)->Λ->Hp->Prop
abbrev TIL:=St->Hp->RIL->Prop
structure PIL (X:Cx) (tg iter:Expr) (wi:TIL):Prop where
 run : ∀ (pins:List (Addr × Obj)) (s:Shared) (σ:St) (H:Hp) (R:RIL),Inv X pins σ H s->wi σ H R ->
   wpAny (model X.prog X.w) X.A (eval iter X.env) (fun v s1=>wpAny (model X.prog X.w) X.A (pyIter v) (fun itv s2 =>
     ∃ (Λ:Type) (it:Addr) (n:Nat) (Wk:Nat->Λ->Hp->Λ->Hp->Prop) (Yl:Nat->Λ->V->Hp->Prop) (Fin:Λ->Hp->Prop) (tn:Nat->Λ->Hp->List (Addr × Obj)->Shared->Prop) (l:Λ) (H':Hp) (pl:List (Addr × Obj)),
       itv = .ref it/\Inv X (pins++pl) σ H' s2/\Apt (X.pn++pins) pl/\TurnL X tg it n Wk Yl Fin tn/\tn 0 l H' pl s2/\R n Wk Yl Fin l H') X.xe s1) X.xe s
theorem PIL.imp {tg iter:Expr} {t t':TIL} (h:PIL X tg iter t) (k:∀ σ H R,t' σ H R->t σ H R):PIL X tg iter t':=⟨fun pins s σ H R I q=>h.run pins s σ H R I (k σ H R q)⟩
structure IsGo (go:Obj) (g:Nat):Prop where
 ex:∃ nm qn,go.cls = .type "generator" /\ go.data = .fields #[.int g 0,nm,qn]/\go.slots = #[]
theorem IsGo.gen {go:Obj} {g:Nat} (x:IsGo go g) {h:Heap} {a:Addr} (e:h.get? a=some go):h.IsGen a g:=let ⟨nm,qn,h1,h2,h3⟩:=x.ex; ⟨go,nm,qn,e,h1,h2,h3⟩
theorem IsGo.cell {go:Obj} {g:Nat} (x:IsGo go g):∀ v,go.data ≠ .cell v:=fun v z=>by obtain ⟨nm,qn,_,h2,_⟩:=x.ex; rw [h2] at z; cases z
end
end L2
end
section
namespace Zl
open PySem PySem.Spec PyProof.Rows L2 GenW
section
variable {g:G} {F:Fr} {ρ ρ1:List Addr} {zh zh1:ZH} {H H1:Hp}
def frW (U:Addr->Prop) (H:Hp):Fr:=⟨U,U,H⟩
theorem uo_nil {F:Fr}:UO F [] []=F.P:=by
 funext a
 refine propext ⟨fun h=>?_,.inl⟩;rcases h with h | ⟨i,o,h,_⟩
 . exact h
 . simp at h
theorem RelH.over (r:RelH g F ρ zh H) (e:Ext (frW (UO F ρ zh) H) [] [] H ρ1 zh1 H1) (r1:RelH g (frW (UO F ρ zh) H) ρ1 zh1 H1):RelH g F ρ zh H1/\Ext F ρ zh H ρ zh H1:=by
 have hU:∀ a,UO F ρ zh a->H1 a=H a:=fun a h=>(r1.prot a h).1
 have st:Stb (UO F ρ zh) H (UO F ρ zh) H1:=fun a o h n=>by
   obtain ⟨h1,n1⟩:=e.stb a o h (by rw [uo_nil]; exact n);exact ⟨h1,fun z=>n1 (.inl z)⟩
 have tr:∀ a o,H a=some o -> ∃ o',H1 a=some o':=e.trk;refine ⟨⟨r.len,r.nd,fun i a o h1 h2=>?_,fun a h=>?_,r.notp,fun a h=>?_,r.stb.trans st⟩,⟨Xr5 _,st,tr,fun a h=>.inl h⟩⟩
 . have q:=r.own i a o h1 h2;cases o with
   | gone=>exact trivial
   | dl xs =>
     obtain ⟨vs,k,q⟩:=q;exact ⟨vs,(hU a (.inr ⟨i,_,h1,h2,rfl⟩)).trans k,RDs.mono st _ _ q⟩
   | zl zs =>
     obtain ⟨vs,k,q⟩:=q;exact ⟨vs,(hU a (.inr ⟨i,_,h1,h2,rfl⟩)).trans k,RZs.mono st (Xr5 _) q⟩
   | dic ks ds =>
     obtain ⟨kvs,k,k1,k2,q⟩:=q;exact ⟨kvs,(hU a (.inr ⟨i,_,h1,h2,rfl⟩)).trans k,k1,k2,RDs.mono st _ _ q⟩
   | zdic ks zs =>
     obtain ⟨kvs,k,k1,k2,q⟩:=q;exact ⟨kvs,(hU a (.inr ⟨i,_,h1,h2,rfl⟩)).trans k,k1,k2,RZs.mono st (Xr5 _) q⟩
   | dit ks ds =>
     obtain ⟨xs,vs,k,q1,q2⟩:=q;have e1:=hU a (.inr ⟨i,_,h1,h2,rfl⟩);exact ⟨xs,vs,by rw [e1]; exact k,RDs.mono st _ _ q1,RDs.mono st _ _ q2⟩
   | ins c fs =>
     obtain ⟨k1,k2,dx,fvs,k,k3,q⟩:=q;exact ⟨k1,k2,dx,fvs,(hU a (.inr ⟨i,_,h1,h2,rfl⟩)).trans k,k3,RZs.mono st (Xr5 _) q⟩
 . obtain ⟨h1,h2⟩:=r.prot a h;exact ⟨(hU a (.inl h)).trans h1,h2⟩
 . obtain ⟨o,h1⟩:=r.trk a h;exact tr a o h1
end
def prZ (g:G) (ds:List D):Pro Fr where
 P:=fun j F x H=>∃ d ρ1 zh1,ds[j]? = some d/\Ext F [] [] F.H0 ρ1 zh1 H/\RelH g F ρ1 zh1 H/\RD g (UO F ρ1 zh1) H d x
 W:=fun F H1 F2 H2=>Stb F.P H1 F2.P H2/\F2.H0=H2/\RelH g F2 [] [] H2
abbrev QZ6:Nat:=1000000
def PostL (g:G) (ds:List D) (F:Fr) (ρ:List Addr) (zh:ZH) (H:Hp) (out:OutY) (C:List D->Fr->L2.St->Hp->Prop):Prop:=match out with
 | .nx ys s h=>ys<+:ds /\ ∀ F' ρ' σ' H',Stb (UO F ρ zh) H (UO F' ρ' h) H'->Ext F' [] [] F'.H0 ρ' h H'->RelH g F' ρ' h H'->RelS g (UO F' ρ' h) H' ρ' s σ'->C ys F' σ' H'
 | .bad=>False
theorem PostL.shift {g:G} {ds:List D} {F F1:Fr} {ρ ρ1:List Addr} {zh zh1:ZH} {H H1:Hp} {C:List D->Fr->L2.St->Hp->Prop} (e:Stb (UO F ρ zh) H (UO F1 ρ1 zh1) H1) {out:OutY} (p:PostL g ds F ρ zh H out C):PostL g ds F1 ρ1 zh1 H1 out C:=by
 cases out with
 | nx ys s h=>exact ⟨p.1,fun F' ρ' σ' H' e'=>p.2 F' ρ' σ' H' (e.trans e')⟩
 | bad=>exact p
def lowL (g:G) (ds:List D) (d:DY):TL Fr:=fun D j F σ H=>∃ ρ ys zσ zh,j=ys.length/\Ext F [] [] F.H0 ρ zh H/\RelH g F ρ zh H/\RelS g (UO F ρ zh) H ρ zσ σ/\PostL g ds F ρ zh H (d ys zσ zh) (fun ys' F' σ' H'=>D.nx ys'.length F' σ' H')
def Mono (d:DY):Prop:=∀ ys s h ys' s' h',d ys s h = .nx ys' s' h'->ys<+:ys'
structure ZL1 (g:G) (φ:Fam) (st:Stmt) (d:DY):Prop where
 ls:∀ (ds:List D) (fin:Nat->Fr->Hp->Prop),LS φ (prZ g ds) QZ6 fin st (lowL g ds d)
 mono:Mono d
structure ZLs (g:G) (φ:Fam) (sts:List Stmt) (d:DY):Prop where
 ls:∀ (ds:List D) (fin:Nat->Fr->Hp->Prop),LSs φ (prZ g ds) QZ6 fin sts (lowL g ds d)
 mono:Mono d
section
variable {g:G} {φ:Fam} {W:WX} {st:Stmt} {sts:List Stmt} {e:Expr} {de:DE} {d:DS} {dy dy2:DY} {pos yp:Pos}
end
end Zl
end
section
namespace L2
open PySem PySem.Spec PyProof.Rows GenW
def QZ7 (P:Program) (w:World) (K:UZ9) (mg:Str->Option Value) (base:Heap) (N:List Str) (qual:Str) (scope:Scope) (f:Addr) (cd:Value) (A:Around) (outer:List Env) (s:Shared):Fam where
 X:=gcxOf P w K mg base N qual scope f cd A outer s (fun _=>none) (fun _ _ _=>False) []
 n:=s.heap.objs.size
 xe:=fun i=>(gcxOf P w K mg base N qual scope f cd A outer i.s i.H (fun _ _ _=>False) i.pn).xe
section
variable {P:Program} {w:World} {K:UZ9} {mg:Str->Option Value} {base:Heap} {N ps:List Str} {qual:Str} {scope:Scope} {f:Addr} {cd:Value} {A:Around} {outer:List Env} {s:Shared} {body:List Stmt}
def LMade (P:Program) (w:World) (K:UZ9) (mg:Str->Option Value) (base:Heap) (N:List Str) (qual:Str) (scope:Scope) (f:Addr) (cd:Value) (body:List Stmt) (outer:List Env) (s:Shared) (H:Hp) (vs:List V) (u:Value) (s':Shared):Prop :=
 ∃ (a g:Nat) (go:Obj),u = .ref a/\IsGo go g/\s'.heap.get? a=some go/\s.heap.objs.size<a/\s'.gens[g]? = some (.fresh (.func body (envOfC qual scope s.heap.objs.size f cd)))/\s'.os=s.os/\AllBare s'.gens/\(∀ b o,s.heap.get? b=some o->s'.heap.get? b=some o) /\
   ∀ A:Around,A.handled=none->A.frames=some outer -> ∃ oL,Zz (QZ7 P w K mg base N qual scope f cd A outer s) [] (start N vs) oL s'.heap/\((QZ7 P w K mg base N qual scope f cd A outer s).at ⟨s,H,[]⟩).Ok
structure LFn (P:Program) (w:World) (K:UZ9) (mg:Str->Option Value) (base:Heap) (k:Nat) (f:Addr) (fd:FuncData) (ps N:List Str) (qual:Str) (scope:Scope) (cd:Value) (body:List Stmt):Prop where
 run:∀ (A:Around) (outer:List Env) (s:Shared) (H:Hp) (args:Args) (us:List Value) (vs:List V),Room k A->Env0 P w K mg base A outer s H->BindsTo s fd args (ps.zip us)->Vals vs us->vs.length=ps.length ->
   codeAny (model P w) A (.call (.ref f) args) (fun r s'=>match r with | .ok (.ret u)=>LMade P w K mg base N qual scope f cd body outer s H vs u s' | _=>False) s
end
section
variable {X:Cx} {k:Nat} {f:Addr} {fd:FuncData} {ps N:List Str} {qual:Str} {scope:Scope} {cd:Value} {body:List Stmt} {pins:List (Addr × Obj)} {σ:St} {H:Hp} {s:Shared} {us:List Value} {vs dvs:List V} {ds:List Value}
end
end L2
end
section
namespace Zl
open PySem PySem.Spec PyProof.Rows L2 GenW
section
variable {g:G} {F:Fr} {X:Cx} {W:WX} {pos:Pos}
end
def lgenM (n m:Nat) (dy:DY):Sem:=fun zs h=>if zs.length=n then
   match dy [] (zs.map some++List.replicate (m - n) none) [] with
   | .nx ys _ _=>if ys.length<QZ6 then .ok (.d (.lst ys)) h else .bad
   | .bad=>.bad
 else .bad
structure GnL (P:Program) (w:World) (K:UZ9) (mg:Str->Option Value) (base:Heap) (g:G) (k:Nat) (f:Addr) (fd:FuncData) (ps:List Str) (M:Sem):Prop where
 kp:PySem.W.keepIn K (.ref f)=true
 bi:Binds K fd ps []
 ex : ∃ N qual scope cd body dy,(∀ n x,(envOfC qual scope n f cd).cells.lookup x=none)/\LFn P w K mg base k f fd ps N qual scope cd body/\M=lgenM ps.length N.length dy/\N.take ps.length=ps /\
   ∀ (A:Around) (outer:List Env) (s:Shared),Room k (A.deeper (envOfC qual scope s.heap.objs.size f cd))->ZLs g (QZ7 P w K mg base N qual scope f cd A outer s) body dy
def GenL (P:Program) (w:World) (K:UZ9) (mg:Str->Option Value) (base:Heap) (g:G) (k:Nat) (m:Str) (mt:Nat->Option Sem):Prop :=
 ∀ c M,g.has c=true->mt c=some M -> ∃ f fd ps,Meth g.K (g.cad c) m f/\GnL P w K mg base g k f fd ps M /\ ∀ x∈X0 c,fnm x≠m
section
variable {g:G} {F:Fr} {X:Cx} {W:WX} {ρ:List Addr} {zh:ZH} {H:Hp} {zs:List Z} {vs:List V}
end
end Zl
namespace Zl
open PySem PySem.Spec PyProof.Rows L2 GenW
section
variable {g:G} {F:Fr} {X:Cx} {W:WX} {o:Expr} {da:DE} {apos pos p:Pos} {k:Nat} {m:Str} {mt:Nat->Option Sem} {pl:PySem.Sem Bool} {tg:Expr}
end
section
variable {prog:Program} {w:World} {A:Around} {E:Value->Shared->Prop} {s:Shared} {S2:Heap->Addr->Addr->Nat->Prop} {Q2:Heap->Addr->Array Value->Prop}
end
structure Zp (z TI TO i2 a b:Addr) (n:Nat) (oz oTI oTO oi:Obj) (h:Heap):Prop where
 hz:IsZip h z TI TO .none
 ez:h.get? z=some oz
 hI:IsPair h TI (.ref a) (.ref i2)
 eI:h.get? TI=some oTI
 hO:∃ x y,IsPair h TO x y
 eO:h.get? TO=some oTO
 hi:h.IsListIter i2 b n
 ei:h.get? i2=some oi
structure ZA4 (X:Cx) (z TI TO i2 b:Addr):Prop where
 d:TI≠z/\TO≠z/\i2≠z/\TI≠TO/\TI≠i2/\TO≠i2/\b≠TO
 yg:∀ c∈[z,TI,TO,i2],X.s_0.heap.objs.size<=c/\c≠X.env.locals/\c∉X.fs /\ ∀ x d,X.env.cells.lookup x=some d->d≠c
section
variable {X:Cx}
end
section
variable {g:G} {F:Fr} {X:Cx} {W:WX} {o:Expr} {da:DE} {apos pos pos1 p:Pos} {k:Nat} {m:Str} {mt:Nat->Option Sem} {pl:PySem.Sem Bool}
end
end Zl
namespace Zl
open PySem PySem.Spec PyProof.Rows L2 GenW
theorem GnL.mono {P:Program} {w:World} {K:UZ9} {mg:Str->Option Value} {base:Heap} {g:G} {j k:Nat} {f:Addr} {fd:FuncData} {ps:List Str} {M:Sem} (T:GnL P w K mg base g k f fd ps M) (h:k<=j):GnL P w K mg base g j f fd ps M:=by
 obtain ⟨N,qual,scope,cd,body,dy,h1,h2,h3,h4,h5⟩:=T.ex;exact ⟨T.kp,T.bi,N,qual,scope,cd,body,dy,h1,⟨fun A outer s H args us vs hr=>h2.run A outer s H args us vs (hr.mono h)⟩,h3,h4,fun A outer s hr=>h5 A outer s (hr.mono h)⟩
theorem GenL.mono {P:Program} {w:World} {K:UZ9} {mg:Str->Option Value} {base:Heap} {g:G} {j k:Nat} {m:Str} {mt:Nat->Option Sem} (T:GenL P w K mg base g k m mt) (h:k<=j):GenL P w K mg base g j m mt:=fun c M h1 h2 =>
 let ⟨f,fd,ps,a,b,d⟩:=T c M h1 h2; ⟨f,fd,ps,a,b.mono h,d⟩
end Zl
end
section
namespace Zl
open PySem PySem.Spec PyProof.Rows L2
section
variable {g:G} {F:Fr} {X:Cx} {W:WX} {e:Expr} {p pos:Pos} {d:DA}
end
section
variable {QZ:Z->ZH->Prop} {E:ZX->ZH->Prop} {s:ZS} {h:ZH}
end
open TL
section
variable {X:Cx}
end
section
variable {g:G}
end
section
variable {g:G} {F:Fr} {X:Cx} {W:WX} {e o:Expr} {es:List Expr} {da:DE} {cpos apos:Pos} {d:DA}
end
section
variable {h:ZH}
end
end Zl
end
section
namespace Zl
open PySem PySem.Spec PyProof.Rows L2
section
variable {g:G} {F:Fr} {X:Cx} {W:WX} {a:Expr} {d:DE} {p q pos pos2:Pos}
end
section
variable {QZ:Z->ZH->Prop} {E:ZX->ZH->Prop} {s:ZS} {h:ZH} {d:DE}
end
section
variable {g:G} {F:Fr} {X:Cx} {W:WX} {k:Nat} {e:Expr} {es:List Expr} {d:DA} {da db:DS} {xs ys:List Stmt}
end
open TL
section
variable {g:G} {F:Fr} {X:Cx} {W:WX} {e:Expr} {d:DA} {p pos:Pos}
end
end Zl
end
section
open Zl PySem PySem.Spec PyProof.Rows L2 TL
local macro_rules | `(tactic| walk_at"s") => `(tactic| simp only [wp_ok,wp_exc,wp_bad,wp_bnd,wp_bndS,wp_iteb,wps_bnd,wps_nx,wps_rt,wps_bk,wps_ct,wps_exc,wps_bad,optP_some,optP_none,slotZ_0,slotZ_s,zBl_bl,zInt_int,wp_var,wp_C,wp_nil,wp_cons,wp_bin,wp_call,wp_callF,wp_fld,wp_tup,wp_lst,wp_lstO,wp_lstZ,wp_meth,wp_methD,wp_isi,wp_part,wp_part0,wp_sl,wp_andV,wp_notV,wp_chain,wp_test,wp_cmpT,wp_boolT,wp_and,wp_or,wp_not,wps_skip,wps_seq,wps_asg,wps_set,wps_drop,wps_ret,wps_if,wps_raise,wps_setfld,wps_frz,wps_end,wps_for,wp_lc,wp_runF,wp_rng1,wp_weak,weak_N,weak_l,tupN_l,isTupN_N,tIx_s,lIx_l,rep_o,wp_izip,zipIt_tt,zipIt_tl,wp_prop,wps_setProp,wps_setI,upper_s,wps_tryMany,tryM_rt,tryM_ex,itO_zl,add_i,add_s,sub_i,mod_i,div_i,mul_i,mul_s,pow_i,lt_i,le_i,gt_i,ge_i,int_i,abs_i,len_s,len_l,len_t,len_c,list_l,list_t,list_r,listO_dl,tup_r,tupO_dl,ix_s,ix_l,ix_t,ix_c,ix_r,ixO_dl,ixO_zl,wp_ixD,eq_d,eq_rd,viewO_dl,wp_eqO,tr_b,isLst_l,isLst_r,isLstO_dl,isLstO_zl,app_r,appO_dl,appO_zl,pop_r,rev_r,revO_dl,asDs_0,asDs_s,bind_s,endK_nx,endK_rt,endK_ex,turn_nx,turn_rt,turn_ex,wipe_0,wipe_s,List.set_cons_zero,List.set_cons_succ,List.getElem?_cons_zero,List.getElem?_cons_succ,List.cons_append,List.nil_append,List.length_cons,List.length_nil,Xr4,List.map_nil,List.replicate_succ,List.replicate_zero,List.range_zero,Nat.reduceAdd,Nat.reduceSub,Nat.reduceLeDiff,Nat.zero_le,Nat.zero_add,true_and,and_true,reduceIte,Bool.false_eq_true,Bool.true_eq_false,beq_self_eq_true,Bool.not_true,Bool.not_false,if_true,if_false,ne_eq,ty_i,ty_t,isa_int_bl,isa_int_int,isa_tup_tup,gc_new,sl_l,sl_s,Int.reduceLT,Int.reduceLE,Int.reduceToNat,Int.reduceAbs,Int.reduceEq,Int.reduceNeg,Int.reduceAdd,Int.reduceSub,Int.reduceMul,Nat.reduceLT,Nat.reduceEqDiff,not_false_eq_true,not_true_eq_false,or_true,true_or,false_or,or_false,and_self,peq_ii,frzAt_ok,frzS_r,frzO_dl,decide_eq_true_eq,Bool.not_eq_eq_eq_not,decide_eq_false_iff_not,decide_not,Decidable.not_not,guard_n,popO_dl,Int.toNat_natCast,List.take_succ_cons,List.take_zero,List.take_nil,wp_make,asStrs_map,asList_l,asSeq_l,wps_pair,wp_all,isStr_s,in_s,in_strs,peq_ss,at_0,at_1,put_1,nc_6,List.head?_cons,List.tail_cons,wp_iany,itAny_s,itAny_l,itAny_r,set_r,setFO_i,putN_0,putN_s,fld_r,fldO_i,lk_s,cf_17_14,cf_17_15,ce_17,cf_18_11,cf_18_12,cf_18_13,ce_18,f_cell,f_value,f_line,f_name,f_function,f_number,f_position,f_place,f_start,f_program,f_lane,f_names,f_size,f_current,f_cells,f_saved,f_source,f_local,f_target,f_inputs,f_steps,f_lanes,f_tracks,f_lengths,f_system,f_plan,f_counts,f_programs,f_tables,f_members,f_found,f_end,f_rule,f_step,f_starts,f_numbers,f_pairs,f_weave,f_known,f_machine,f_scheduler,f_beginning,f_own,wps_raiseX,wp_fldX,excAt_e,wps_idx,setIx_r,setIx_dl,wps_wipeS,cl_2,cl_3])
local macro_rules | `(tactic| walk_at"g") => `(tactic| first | rw [gc_rt (by rfl)] | rw [gc_nx (by rfl)] | rw [gc_exc (by rfl)] | rw [gc_ct (by rfl)] | rw [gc_bk (by rfl)])
local macro_rules | `(tactic| walk_at"z") => `(tactic| (try walk_at"s"); repeat (walk_at"g"; try walk_at"s"))
section
namespace Zl
open PySem PySem.Spec PyProof.Rows L2
section
theorem QP6 (i:Int):M_law_is_number [.d (.int i)] [] = .ok (.d (.bl true)) []:=by
 refine K5 ?_;unfold M_law_is_number C1;walk_at"z"
theorem QZ8 {ds:List D} {n:Int} (hd:Ints ds) (hn:0<n):∃ v ds',Ints ds'/\0<=v/\v<n/\M_law_draw [.r 0,.d (.int n)] [.dl ds] = .ok (.d (.int v)) [.dl ds']:=by
 have e0:=QW6 hd.pd (by decide);rcases List.eq_nil_or_concat ds with e | ⟨r,d,e⟩
 . subst e;refine ⟨0,[],hd,Int.le_refl _,hn,K5 ?_⟩;unfold M_law_draw Qc9;walk_at"z";simp only [e0,List.isEmpty_nil];walk_at"z"
 . subst e;rw [List.concat_eq_append] at hd e0 ⊢;obtain ⟨i,rfl⟩:=hd d (by simp);have e1:(r++[D.int i]).isEmpty=false:=by simp
   rw [e1] at e0;refine ⟨i % n,r,fun x hx=>hd x (by simp [hx]),Int.emod_nonneg _ (by omega),Int.emod_lt_of_pos _ hn,K5 ?_⟩;unfold M_law_draw Qc9;walk_at"z";simp only [e0];walk_at"z";exact hn
theorem V2 {i:Nat} {ds:List D} {n:Int} {h:ZH} {Q:Z->ZH->Prop} {E:ZX->ZH->Prop} (hi:h[i]? = some (.dl ds)) (hd:Ints ds) (hn:0<n) (k:∀ v ds',Ints ds'->0<=v->v<n->Q (.d (.int v)) (h.set i (.dl ds'))):(J8 M_law_draw [.r i,.d (.int n)] h).wp Q E:=by
 obtain ⟨v,ds',h1,h2,h3,e⟩:=QZ8 hd hn;exact Qu7 (Qn6 (xs:=[.int n]) hi e) (k v ds' h1 h2 h3)
theorem wp_int {o:Out Z} {h:ZH} (w:o.wp (fun b h1=>(∃ v,b = .d (.int v))/\h1=h) (fun _ _=>False)):∃ v,o = .ok (.d (.int v)) h:=by
 obtain ⟨a,h1,e,⟨v,rfl⟩,rfl⟩:=Qu8 w;exact ⟨v,e⟩
theorem wp_new {o:Out Z} {P:List D->Prop} (w:o.wp (fun z h=>z = .r 0 /\ ∃ ds,P ds/\h=[.dl ds]) (fun _ _=>False)):∃ ds,P ds/\o = .ok (.r 0) [.dl ds]:=by
 obtain ⟨z,h,e,rfl,ds,hd,rfl⟩:=Qu8 w;exact ⟨ds,hd,e⟩
theorem QP7 (a k:Int):∃ v,M_law_mixed [.d (.int a),.d (.int k)] [] = .ok (.d (.int v)) []:=by
 have h1:0<=(a*48271+k*69621+11) % 65537:=Int.emod_nonneg _ (by decide);have h2:(a*48271+k*69621+11) % 65537<65537:=Int.emod_lt_of_pos _ (by decide);have h3:=Int.emod_nonneg (((a*48271+k*69621+11) % 65537)*((a*48271+k*69621+11) % 65537)+k*7919+3) (show (64007:Int)≠0 by decide);have h4:=Int.emod_lt_of_pos (((a*48271+k*69621+11) % 65537)*((a*48271+k*69621+11) % 65537)+k*7919+3) (show (0:Int)<64007 by decide);refine wp_int ?_;unfold M_law_mixed Qj1;walk_at"z";exact ⟨by omega,by omega,_,rfl⟩
theorem Ints.snoc {ds:List D} (h:Ints ds) (v:Int):Ints (ds++[.int v]):=fun d hd=>by
 rcases List.mem_append.mp hd with hd | hd
 . exact h d hd
 . exact ⟨v,by simpa using hd⟩
theorem Ints.rev {ds:List D} (h:Ints ds):Ints ds.reverse:=fun d hd=>h d (by simpa using hd)
theorem F7 {n:Nat} {i:Int} (h0:0<=i) (h1:i<n):ixN n i=some i.toNat:=by
 unfold ixN;rw [if_pos h0];simp [h1]
theorem atD_in {xs:List D} {i:Nat} (h:i<xs.length):atD xs (i:Int)=some xs[i]:=by
 unfold atD;rw [F7 (by omega) (by omega)];simp [h]
theorem QZ9 (ns:List Int) (hn:ns.length<=63):∃ ds,Ints ds/\M_law_pool [.d (.scr (ns.map D.int))] [] = .ok (.r 0) [.dl ds]:=by
 refine wp_new ?_;unfold M_law_pool Qm1;walk_at"z";refine ⟨Qo0 (by rw [Xq5]; omega),QN9 (fun i s h=>s=[some (.d (.scr (ns.map D.int))),some (.r 0),none,none,none] /\ ∃ ds,h=[.dl ds]/\Ints ds/\ds.length<=60*i) ⟨rfl,[],rfl,⟨fun d hd=>(by cases hd),by simp⟩⟩ ?_ ?_⟩
 . rintro i s h hi ⟨rfl,ds,rfl,hd,hl⟩;have hi:i<ns.length:=by simpa using hi
   walk_at"z";simp only [atD_in (show i<(ns.map D.int).length by simpa using hi),List.getElem_map];walk_at"z";generalize (if ns[i]<0 then -ns[i] else ns[i])=L
   by_cases hs:L<10 ^ Int.toNat 18
   . rw [if_pos (by simpa using hs)];walk_at"z";refine ⟨R9 (by decide) (by decide),QN9 (fun j s h=>s=[some (.d (.scr (ns.map D.int))),some (.r 0),some (.d (.int i)),some (.d (.int L)),none] /\ ∃ ds,h=[.dl ds]/\Ints ds/\ds.length<=60*i+j) ⟨rfl,ds,rfl,hd,by omega⟩ ?_ ?_⟩
     . rintro j s h hj ⟨rfl,ds,rfl,hd,hl⟩;walk_at"z";obtain ⟨v,hv⟩:=QP7 L (8*(i:Int)+(j:Int));refine X9 (xs:=[.int L,.int (8*i+j)]) hv ?_;walk_at"z";exact ⟨by omega,_,rfl,hd.snoc v,by simp; omega⟩
     . rintro s h ⟨rfl,ds,rfl,hd,hl⟩;walk_at"z";exact ⟨_,rfl,hd,by omega⟩
   . rw [if_neg (by simpa using hs)];walk_at"z";refine ⟨R9 (by decide) (by decide),QN9 (fun j s h=>(∃ L,s=[some (.d (.scr (ns.map D.int))),some (.r 0),some (.d (.int i)),some (.d (.int L)),none]) /\ ∃ ds,h=[.dl ds]/\Ints ds/\ds.length<=60*i+j) ⟨⟨L,rfl⟩,ds,rfl,hd,by omega⟩ ?_ ?_⟩
     . rintro j s h hj ⟨⟨L,rfl⟩,ds,rfl,hd,hl⟩;walk_at"z"
       by_cases h0:0<L
       . rw [if_pos (by simpa using h0)];walk_at"z";exact ⟨by omega,⟨_,rfl⟩,_,rfl,hd.snoc _,by simp; omega⟩
       . rw [if_neg (by simpa using h0)];walk_at"z";exact ⟨⟨_,rfl⟩,_,rfl,hd,by omega⟩
     . rintro s h ⟨⟨L,rfl⟩,ds,rfl,hd,hl⟩;walk_at"z";exact ⟨_,rfl,hd,by omega⟩
 . rintro s h ⟨rfl,ds,rfl,hd,_⟩;walk_at"z";exact ⟨_,hd.rev,rfl⟩
end
section
def Lets (s:List Nat):Prop:=∀ c∈s,97<=c/\c<=122
def NameOk (s:List Nat):Prop:=1<=s.length/\s.length<=8/\Lets s
def H5 (ss:List (List Nat)):Prop:=ss.Nodup /\ ∀ s∈ss,NameOk s
abbrev LET:List Nat:=[97,98,99,100,101,102,103,104,105,106,107,108,109,110,111,112,113,114,115,116,117,118,119,120,121,122]
theorem Qy7 {v:Int} (h0:0<=v) (h1:v<26):((ixN 26 v).bind fun j=>LET[j]?)=some (97+v.toNat):=by
 rw [F7 h0 (by exact h1)];obtain ⟨n,rfl⟩:∃ n:Nat,v=n:=⟨v.toNat,by omega⟩;have hn:n<26:=by omega
 have H:∀ n<26,LET[n]? = some (97+n):=by decide
 simpa using H n hn
theorem Lets.nil:Lets []:=fun c h=>by cases h
theorem Lets.app {a b:List Nat} (ha:Lets a) (hb:Lets b):Lets (a++b):=fun c h=>(List.mem_append.mp h).elim (ha c) (hb c)
theorem Lets.one {v:Int} (h0:0<=v) (h1:v<26):Lets [97+v.toNat]:=fun c h=>by
 have:c=97+v.toNat:=by simpa using h
 omega
def NmAt (fr bk:List Nat) (sh st:Int) (k:Nat) (s:List Nat):Prop:=∃ e,s=fr++[97+((sh+st*k) % 26).toNat]++bk++e/\e.length<=1/\Lets e
theorem nm_ne {fr bk:List Nat} {sh st:Int} {j k:Nat} {s t:List Nat} (hst:st=1\/st=25\/st=7) (hj:j<26) (hk:k<26) (hs:NmAt fr bk sh st j s) (ht:NmAt fr bk sh st k t) (e:s=t):j=k:=by
 obtain ⟨a,ea,_,_⟩:=hs;obtain ⟨b,eb,_,_⟩:=ht;rw [ea,eb] at e;have h:=congrArg (fun l=>l[fr.length]?) e;simp at h;have h0:=Int.emod_nonneg (sh+st*j) (show (26:Int)≠0 by decide);have h1:=Int.emod_nonneg (sh+st*k) (show (26:Int)≠0 by decide);have h2:(sh+st*j) % 26=(sh+st*k) % 26:=by omega
 rcases hst with rfl | rfl | rfl <;> omega
theorem nm_all {fr bk:List Nat} {sh st:Int} {ss:List (List Nat)} (hst:st=1\/st=25\/st=7) (hf:Lets fr) (hb:Lets bk) (lf:fr.length<=3) (lb:bk.length<=3) (hl:ss.length<=26) (h:∀ k s,ss[k]? = some s->NmAt fr bk sh st k s):H5 ss:=by
 refine ⟨List.pairwise_iff_getElem.mpr fun i j hi hj hij e=>?_,fun s hs=>?_⟩
 . have:=nm_ne hst (by omega) (by omega) (h i _ (Xq6 hi)) (h j _ (Xq6 hj)) e;omega
 . obtain ⟨k,hk⟩:=List.getElem?_of_mem hs;obtain ⟨e,rfl,le,he⟩:=h k s hk;have h0:=Int.emod_nonneg (sh+st*k) (show (26:Int)≠0 by decide);have h1:=Int.emod_lt_of_pos (sh+st*k) (show (0:Int)<26 by decide);exact ⟨by simp; omega,by simp; omega,((hf.app (Lets.one h0 h1)).app hb).app he⟩
theorem QP8 {o:Out Z} {n:Nat} (w:o.wp (fun z h=>∃ ss ds',ss.length=n/\H5 ss/\Ints ds'/\z = .d (.lst (ss.map D.str))/\h=[.dl ds']) (fun _ _=>False)):∃ ss ds',ss.length=n/\H5 ss/\Ints ds'/\o = .ok (.d (.lst (ss.map D.str))) [.dl ds']:=by
 obtain ⟨z,h,e,ss,ds',h1,h2,h3,rfl,rfl⟩:=Qu8 w;exact ⟨ss,ds',h1,h2,h3,e⟩
abbrev W6:List (List Nat):=[[114,101,97,100],[97,115],[119,114,105,116,101],[98,121],[111,102],[112,114,111,103,114,97,109]]
theorem QP9 {ds:List D} {n:Nat} (hd:Ints ds) (hn:n<=6):∃ ss ds',ss.length=n/\H5 ss/\Ints ds'/\M_law_names [.r 0,.d (.int n)] [.dl ds] = .ok (.d (.lst (ss.map D.str))) [.dl ds']:=by
 refine QP8 ?_;unfold M_law_names Qj2;walk_at"z";refine V2 rfl hd (by decide) fun ch d1 i1 _ _=>?_;walk_at"z"
 by_cases hc:ch=4
 . rw [if_pos hc];walk_at"z";refine ⟨W6.take n,d1,by simp [W6]; omega,⟨(show W6.Nodup by decide).sublist (List.take_sublist _ _),fun s hs=>?_⟩,i1,?_,rfl⟩
   . have hs:=List.mem_of_mem_take hs;have H:∀ s∈W6,1<=s.length/\s.length<=8 /\ ∀ c∈s,97<=c/\c<=122:=by decide
     exact H s hs
   . rw [QX5,List.map_take];rfl
 . rw [if_neg hc];walk_at"z";refine V2 rfl i1 (by decide) fun sh d2 i2 _ _=>?_;walk_at"z";refine V2 rfl i2 (by decide) fun v d3 i3 v0 v1=>?_;walk_at"z"
   obtain ⟨st,hst,est⟩:∃ st:Int,(st=1\/st=25\/st=7)/\atD [.int 1,.int 25,.int 7] v=some (.int st):=by
     have:v=0\/v=1\/v=2:=by omega
     rcases this with rfl | rfl | rfl
     . exact ⟨1,.inl rfl,rfl⟩
     . exact ⟨25,.inr (.inl rfl),rfl⟩
     . exact ⟨7,.inr (.inr rfl),rfl⟩
   rw [est];walk_at"z";refine V2 rfl i3 (by decide) fun v4 d4 i4 a0 a1=>?_;walk_at"z";refine ⟨R9 (by omega) (by omega),QN9 (fun i s h=>∃ fr ds,s=[some (.r 0),some (.d (.int n)),some (.d (.str LET)),some (.d (.int ch)),some (.d (.int sh)),some (.d (.int st)),some (.d (.str fr)),none,none,none,none]/\h=[.dl ds]/\Ints ds/\Lets fr/\fr.length=i) ⟨[],_,rfl,rfl,i4,Lets.nil,rfl⟩ ?_ ?_⟩
   . rintro i s h hi ⟨fr,ds,rfl,rfl,hd,hf,lf⟩;walk_at"z";refine V2 rfl hd (by decide) fun c d5 i5 c0 c1=>?_;walk_at"z";rw [Qy7 c0 c1];walk_at"z";exact ⟨by omega,_,_,rfl,rfl,i5,hf.app (Lets.one c0 c1),by simp [lf]⟩
   rintro s h ⟨fr,d5,rfl,rfl,i5,hf,lf⟩;walk_at"z";refine V2 rfl i5 (by decide) fun v6 d6 i6 b0 b1=>?_;walk_at"z";refine ⟨R9 (by omega) (by omega),QN9 (fun i s h=>∃ bk ds,s=[some (.r 0),some (.d (.int n)),some (.d (.str LET)),some (.d (.int ch)),some (.d (.int sh)),some (.d (.int st)),some (.d (.str fr)),none,some (.d (.str bk)),none,none]/\h=[.dl ds]/\Ints ds/\Lets bk/\bk.length=i) ⟨[],_,rfl,rfl,i6,Lets.nil,rfl⟩ ?_ ?_⟩
   . rintro i s h hi ⟨bk,ds,rfl,rfl,hd,hf,lf⟩;walk_at"z";refine V2 rfl hd (by decide) fun c d5 i5 c0 c1=>?_;walk_at"z";rw [Qy7 c0 c1];walk_at"z";exact ⟨by omega,_,_,rfl,rfl,i5,hf.app (Lets.one c0 c1),by simp [lf]⟩
   intro s h hI;obtain ⟨bk,d7,es,eh,i7,hb,lb⟩:=hI;rw [es,eh];walk_at"z";have hR:InR (n:Int):=Qo0 (by omega);refine ⟨hR,QN9 (fun i s h=>∃ ss,s=[some (.r 0),some (.d (.int n)),some (.d (.str LET)),some (.d (.int ch)),some (.d (.int sh)),some (.d (.int st)),some (.d (.str fr)),none,some (.d (.str bk)),some (.r 1),none]/\h=[.dl d7,.dl (ss.map D.str)]/\ss.length=i /\ ∀ k s,ss[k]? = some s->NmAt fr bk sh st k s) ⟨[],rfl,rfl,rfl,fun k s e=>by cases e⟩ ?_ ?_⟩
   . rintro i s h hi ⟨ss,rfl,rfl,ls,hs⟩;have hi:i<n:=by omega
     walk_at"z";have m0:=Int.emod_nonneg (sh+st*(i:Int)) (show (26:Int)≠0 by decide);have m1:=Int.emod_lt_of_pos (sh+st*(i:Int)) (show (0:Int)<26 by decide);refine ⟨.inr (by omega),?_⟩;rw [Qy7 m0 m1];walk_at"z";have l1:(fr++[97+((sh+st*(i:Int)) % 26).toNat]).length=fr.length+1:=by simp
     have nx:∀ e:List Nat,e.length<=1->Lets e -> ∀ k s,(ss++[fr++[97+((sh+st*(i:Int)) % 26).toNat]++bk++e])[k]? = some s->NmAt fr bk sh st k s:=fun e le he k s hk=>by
       by_cases hlt:k<ss.length
       . rw [Xr2 hlt] at hk;exact hs k s hk
       . rw [List.getElem?_append_right (by omega)] at hk
         have hk0:k - ss.length=0:=by
           have:=(Xr0.mp hk).1;simp at this;omega
         rw [hk0] at hk;have hk2:k=i:=by omega
         cases hk;subst hk2;exact ⟨e,rfl,le,he⟩
     refine ⟨by omega,by rw [l1]; omega,?_⟩
     by_cases hc2:ch=2
     . rw [if_pos hc2];walk_at"z";have q0:=Int.emod_nonneg (i:Int) (show (2:Int)≠0 by decide);have q1:=Int.emod_lt_of_pos (i:Int) (show (0:Int)<2 by decide);rw [Qy7 (v:=(i:Int)) (by omega) (by omega)];walk_at"z";have le:(if (i:Int) % 2<1 then ([]:List Nat) else [97+(i:Int).toNat]).length<=1:=by split <;> simp
       have he:Lets (if (i:Int) % 2<1 then ([]:List Nat) else [97+(i:Int).toNat]):=by
         split
         . exact Lets.nil
         . exact Lets.one (by omega) (by omega)
       rw [show 97+(i:Int).toNat=97+i by omega] at le he;exact ⟨⟨by omega,by omega⟩,by rw [List.length_append,l1]; omega,by rw [Xq5]; omega,ss++[_],by rw [List.map_append]; rfl,by simp [ls],nx _ le he⟩
     . rw [if_neg hc2];walk_at"z";refine ⟨by rw [Xq5]; omega,ss++[_],by rw [List.map_append]; rfl,by simp [ls],?_⟩;have:=nx [] (by simp) Lets.nil;rw [List.append_nil] at this;exact this
   . intro s h hI;obtain ⟨ss,es,eh,ls,hs⟩:=hI;rw [es,eh];walk_at"z";exact ⟨ss,d7,ls,nm_all hst hf hb (by omega) (by omega) (by omega) hs,i7,rfl,rfl⟩
theorem Xa0 {i n:Nat} {ds:List D} {h:ZH} {Q:Z->ZH->Prop} {E:ZX->ZH->Prop} (hi:h[i]? = some (.dl ds)) (hd:Ints ds) (hn:n<=6) (k:∀ ss ds',ss.length=n->H5 ss->Ints ds'->Q (.d (.lst (ss.map D.str))) (h.set i (.dl ds'))):(J8 M_law_names [.r i,.d (.int n)] h).wp Q E:=by
 obtain ⟨ss,ds',h1,h2,h3,e⟩:=QP9 hd hn;exact Qu7 (Qn6 (xs:=[.int n]) hi e) (k ss ds' h1 h2 h3)
end
end Zl
end
section
namespace Zl
open PySem PySem.Spec PyProof.Rows L2 TL
section
abbrev READ:List Nat:=[114,101,97,100]
abbrev AS:List Nat:=[97,115]
abbrev WRITE:List Nat:=[119,114,105,116,101]
abbrev BY:List Nat:=[98,121]
abbrev OF:List Nat:=[111,102]
inductive Stp where
 | rd (s l:List Nat)
 | wr (t f:List Nat) (is:List (List Nat))
 | rw (s l t f:List Nat) (is:List (List Nat))
namespace Stp
def row:Stp->D
 | rd s l=>.tup [.str s,.str l,.non,.non,.tup []]
 | wr t f is=>.tup [.non,.non,.str t,.str f,.tup (is.map .str)]
 | rw s l t f is=>.tup [.str s,.str l,.str t,.str f,.tup (is.map .str)]
def obj:Stp->D
 | rd s l=>.obj cRead [.str s,.str l]
 | wr t f is=>.obj cWrite [.str t,.str f,.tup (is.map .str)]
 | rw s l t f is=>.obj Qz0 [.str s,.str l,.str t,.str f,.tup (is.map .str)]
def ofW (is:List (List Nat)):List (List Nat):=if is=[] then [] else OF::is
def rdW (s l:List Nat):List (List Nat):=[READ,s,AS,l]
def wrW (t f:List Nat) (is:List (List Nat)):List (List Nat):=[WRITE,t,BY,f]++ofW is
def words:Stp->List (List Nat)
 | rd s l=>rdW s l
 | wr t f is=>wrW t f is
 | rw s l t f is=>rdW s l++wrW t f is
def line (s:Stp):List Nat:=joinL [32] s.words
def locals:Stp->List (List Nat)
 | rd _ l=>[l]
 | wr _ _ _=>[]
 | rw _ l _ _ _=>[l]
def ins:Stp->List (List Nat)
 | rd _ _=>[]
 | wr _ _ is=>is
 | rw _ _ _ _ is=>is
def names:Stp->List (List Nat)
 | rd s l=>[s,l]
 | wr t f _=>[t,f]
 | rw s l t f _=>[s,l,t,f]
def Ok (known:List (List Nat)) (s:Stp):Prop:=(∀ x∈s.names,NameOk x)/\s.ins.length<=3 /\ ∀ x∈s.ins,x∈known++s.locals/\NameOk x
end Stp
def Stp.src:Stp->Option (List Nat)
 | .rd s _=>some s
 | .wr _ _ _=>none
 | .rw s _ _ _ _=>some s
def Stp.tgt:Stp->Option (List Nat)
 | .rd _ _=>none
 | .wr t _ _=>some t
 | .rw _ _ t _ _=>some t
def Stp.use (st:Stp):List (List Nat):=st.src.toList++st.tgt.toList
def Stp.fn:Stp->Option (List Nat × Nat)
 | .rd _ _=>none
 | .wr _ f is=>some (f,is.length)
 | .rw _ _ _ f is=>some (f,is.length)
end
section
def Qk0 (s:List Nat):Bool:=decide (1<=s.length) && (decide (s.length<=8) && s.all fun c=>decide (c∈LET))
theorem vName_iff {s:List Nat}:Qk0 s=true↔NameOk s:=by
 unfold Qk0 NameOk Lets;simp only [Bool.and_eq_true,decide_eq_true_eq,List.all_eq_true]
 have H:∀ c:Nat,c∈LET↔97<=c/\c<=122:=by
   intro c;simp only [LET,List.mem_cons,List.not_mem_nil,or_false];omega
 simp only [H]
theorem QQ0 {s:List Nat} (hs:s.length<=1000000):M_valid_name [.d (.str s)] [] = .ok (.d (.bl (Qk0 s))) []:=by
 refine K5 ?_;unfold M_valid_name Qe0;walk_at"z";unfold Qk0
 by_cases h1:1<=s.length
 . rw [if_pos (by omega)];walk_at"z"
   by_cases h2:s.length<=8
   . rw [if_pos (by omega)];walk_at"z";rw [QX8];refine lcF0 (fun c=>D.str [c]) (fun c=>D.bl (decide (c∈LET))) (by rw [guard_n]; trivial) hs (fun c hc=>?_) ?_
     . walk_at"z"
     . walk_at"z";rw [show s.map (fun c=>D.bl (decide (c∈LET)))=(s.map fun c=>decide (c∈LET)).map D.bl by rw [List.map_map]; rfl,G3];walk_at"z";simp [h1,h2,List.all_map]
   . rw [if_neg (by omega)];walk_at"z";simp [h2]
 . rw [if_neg (by omega)];walk_at"z";simp [h1]
end
section
def OkS:List (List Nat)->List Stp->Prop
 | _,[]=>True
 | known,s::r=>s.Ok known/\OkS (known++s.locals) r
theorem NameOk.no {s:List Nat} (h:NameOk s) {c:Nat} (hc:c<97):c∉s:=fun m=>by
 have:=h.2.2 c m;omega
theorem OkS.mem {st:Stp}:∀ {sts:List Stp} {K:List (List Nat)},OkS K sts->st∈sts -> ∃ K',st.Ok K'
 | s::r,K,h,m=>by
   rcases List.mem_cons.mp m with rfl | m
   . exact ⟨K,h.1⟩
   . exact OkS.mem h.2 m
theorem OkS.at_:∀ {sts:List Stp} {K:List (List Nat)} {i:Nat} {st:Stp},OkS K sts->sts[i]? = some st->st.Ok (K++(sts.take i).flatMap Stp.locals)
 | s::r,K,0,st,h,e=>by
   cases e;simpa using h.1
 | s::r,K,i+1,st,h,e=>by
   have:=OkS.at_ h.2 (by simpa using e);simpa [List.flatMap_cons,List.append_assoc] using this
end
def words (l:List Nat):List (List Nat):=spl [32] 0 [] l
section
end
section
end
section
theorem U4 {M:Sem} {zs zs':List Z} {h h0:ZH} {QZ:Z->ZH->Prop} {E:ZX->ZH->Prop} (fp:List Nat) (hfp:P0 h 40 (zs.flatMap K3) []=fp) (hc:T6 h fp zs=true) (e1:zs.map (Qk3 fp)=zs') (e2:(fp.map fun i=>QM9 fp (h.getD i .gone))=h0)
   (w:(M zs' h0).wp (fun z os=>QZ (unZ fp h.length z) (Q9 fp h os)) (fun x os=>E x (Q9 fp h os))):(J8 M zs h).wp QZ E:=by
 with_unfolding_all
   unfold J8;dsimp only;rw [hfp,if_pos hc,e1,e2];cases k:M zs' h0 with
   | ok z os=>rw [k] at w; dsimp only; rw [wp_ok] at *; exact w
   | exc x os=>rw [k] at w; dsimp only; rw [wp_exc] at *; exact w
   | bad=>rw [k] at w; rw [wp_bad] at w; exact w.elim
theorem ded_mem {α:Type} [DecidableEq α] {xs:List α} {x:α}:x∈ded xs↔x∈xs:=by
 suffices H:∀ n,∀ xs:List α,xs.length=n->(x∈ded xs↔x∈xs) from H _ xs rfl
 intro n
 induction n with
 | zero=>intro xs h; rw [List.length_eq_zero_iff.mp h]; rfl
 | succ n ih =>
   intro xs h;have hne:xs≠[]:=fun z=>by rw [z] at h; cases h
   rw [<- List.dropLast_concat_getLast hne,Qa7];have i:=ih xs.dropLast (by simp; omega)
   split
   . rename_i hm;rw [List.mem_append,List.mem_singleton]
     constructor
     . exact fun m=>.inl (i.mp m)
     . rintro (m | m)
       . exact i.mpr m
       . rw [m]; exact hm
   . rw [List.mem_append,List.mem_append,i]
theorem ded_len {α:Type} [DecidableEq α] {xs:List α}:(ded xs).length=xs.length↔xs.Nodup:=by
 suffices H:∀ n,∀ xs:List α,xs.length=n->((ded xs).length=xs.length↔xs.Nodup) from H _ xs rfl
 intro n
 induction n with
 | zero=>intro xs h; rw [List.length_eq_zero_iff.mp h]; exact ⟨fun _=>List.nodup_nil,fun _=>rfl⟩
 | succ n ih =>
   intro xs h;have hne:xs≠[]:=fun z=>by rw [z] at h; cases h
   have i:=ih xs.dropLast (by simp; omega);have le:=Qx2 xs.dropLast;rw [<- List.dropLast_concat_getLast hne,Qa7];generalize xs.getLast hne=y;generalize xs.dropLast=ys at *;rw [List.nodup_append]
   split
   . rename_i hm
     constructor
     . intro z; rw [List.length_append] at z; simp at z; omega
     . rintro ⟨_,_,z⟩;exact absurd rfl (z y (ded_mem.mp hm) y (by simp))
   . rename_i hm;rw [List.length_append,List.length_append]
     constructor
     . intro z;refine ⟨i.mp (by simpa using z),by simp,fun a ha b hb e=>hm ?_⟩;rw [List.mem_singleton.mp hb] at e;rw [<- e];exact ded_mem.mpr ha
     . rintro ⟨z,_⟩;simp [i.mpr z]
theorem QK9 {z:Z} {h:ZH} {QZ:Z->ZH->Prop} {E:ZX->ZH->Prop}:(opLenSet [z] h).wp QZ E=S9 (P7 z h) fun xs=>S9 (S8 xs) fun ss=>ss.length<1000/\QZ (.d (.int (ded ss).length)) h:=by
 unfold opLenSet;dsimp only;cases P7 z h with
 | none=>rw [optP_none]; dsimp only; rw [wp_bad]
 | some xs =>
   rw [optP_some];dsimp only;cases S8 xs with
   | none=>rw [optP_none]; dsimp only; rw [wp_bad]
   | some ss =>
     rw [optP_some];dsimp only;rw [wp_iteb,wp_ok]
def F8 (cs:List (List Nat)):Bool:=decide (1<=cs.length/\cs.length<=3) && (decide cs.Nodup && cs.all Qk0)
end
section
end
section
end
section
theorem OkS.snoc {st:Stp}:∀ {sts:List Stp} {K:List (List Nat)},OkS K sts->st.Ok (K++sts.flatMap Stp.locals)->OkS K (sts++[st])
 | [],K,_,o=>⟨by simpa using o,trivial⟩
 | s::r,K,h,o=>⟨h.1,OkS.snoc h.2 (by simpa [List.flatMap_cons,List.append_assoc] using o)⟩
end
section
theorem pool_w {ns:List Int} {Q:Z->ZH->Prop} {E:ZX->ZH->Prop} (hn:ns.length<=63) (k:∀ ds,Ints ds->Q (.r 0) [.dl ds]):(J8 M_law_pool [.d (.scr (ns.map D.int))] []).wp Q E:=by
 obtain ⟨ds,hd,e⟩:=QZ9 ns hn
 have e2:J8 M_law_pool [.d (.scr (ns.map D.int))] [] = .ok (.r 0) [.dl ds]:=by
   have r:P0 ([]:ZH) 40 ([Z.d (.scr (ns.map D.int))].flatMap K3) []=[]:=rfl;have c:T6 [] [] [Z.d (.scr (ns.map D.int))]=true:=rfl;unfold J8;dsimp only;rw [r,if_pos c,show [Z.d (.scr (ns.map D.int))].map (Qk3 [])=[.d (.scr (ns.map D.int))] from rfl,List.map_nil,e];rfl
 exact Qu7 e2 (k ds hd)
end
section
theorem Xa1 {cs:List (List Nat)} (hl:cs.length<1000) (hs:∀ c∈cs,c.length<=1000000):(M_check_names [.d (.lst (cs.map .str))] []).wp (fun z h=>F8 cs=true/\z = .d .non/\h=[]) (fun x h=>F8 cs=false/\x=⟨X3,[]⟩/\h=[]):=by
 unfold M_check_names Qb0;walk_at"s"
 by_cases h1:1<=cs.length
 . rw [if_pos (by rw [Xq5]; omega)];walk_at"s"
   by_cases h3:cs.length<=3
   . rw [if_neg (by rw [Xq5]; simp; omega)];walk_at"s";rw [QK9];walk_at"s";refine ⟨hl,?_⟩;rw [Xq5];have le:=Qx2 cs
     by_cases hn:cs.Nodup
     . rw [if_neg (by rw [ded_len.mpr hn]; omega)];walk_at"s";refine lcF0 D.str (fun c=>D.bl (Qk0 c)) (by rw [guard_n]; trivial) (by omega) (fun c hc=>?_) ?_
       . walk_at"s";refine X9 (xs:=[_]) (QQ0 (hs c hc)) ?_;exact ⟨rfl,rfl⟩
       . rw [show cs.map (fun c=>D.bl (Qk0 c))=(cs.map Qk0).map D.bl by rw [List.map_map]; rfl];walk_at"s";rw [G3];walk_at"s";rw [List.all_map];cases hv:cs.all Qk0 with
         | true =>
           rw [show cs.all (id ∘ Qk0)=true from hv];walk_at"z";unfold F8;rw [hv,decide_eq_true hn,decide_eq_true ⟨h1,h3⟩];rfl
         | false =>
           rw [show cs.all (id ∘ Qk0)=false from hv];walk_at"z";unfold F8;rw [hv,Bool.and_false,Bool.and_false]
     . rw [if_pos (by have:(ded cs).length≠cs.length:=fun z=>hn (ded_len.mp z); omega)];walk_at"z";unfold F8;rw [decide_eq_false hn,Bool.false_and,Bool.and_false]
   . rw [if_pos (by rw [Xq5]; simp; omega)];walk_at"z";unfold F8;rw [decide_eq_false (fun z=>h3 z.2),Bool.false_and]
 . rw [if_neg (by rw [Xq5]; omega)];walk_at"z";unfold F8;rw [decide_eq_false (fun z=>h1 z.1),Bool.false_and]
theorem Xa2 {n:Int} {h:ZH}:(M_check_size [.d (.int n)] []).wp (fun z h=>(1<=n/\n<=3)/\z = .d .non/\h=[]) (fun x h=>¬ (1<=n/\n<=3)/\x=⟨X3,[]⟩/\h=[]):=by
 unfold M_check_size Qe1;walk_at"s"
 by_cases h1:1<=n
 . rw [if_pos (by simpa using h1)];walk_at"s"
   by_cases h3:n<=3
   . rw [if_neg (fun z=>z h3)];walk_at"z";exact ⟨h1,h3⟩
   . rw [if_pos h3];walk_at"z";exact fun z=>h3 z.2
 . rw [if_neg (by simpa using h1)];walk_at"z";exact fun z=>h1 z.1
theorem QL0 {k:Nat}:List.replicate k (D.int 0)=(List.replicate k (0:Int)).map .int:=by rw [List.map_replicate]
theorem QQ1 {ds:List D} {m:Int} (hd:Ints ds) (hm:0<m):∃ v ds',Ints ds'/\M_law_value [.r 0,.d (.int m)] [.dl ds] = .ok (.d (.int v)) [.dl ds']:=by
 have w : (M_law_value [.r 0,.d (.int m)] [.dl ds]).wp (fun z h=>∃ v ds',Ints ds'/\z = .d (.int v)/\h=[.dl ds']) (fun _ _=>False):=by
   unfold M_law_value Qj3;walk_at"s";refine V2 rfl hd (by decide) fun k d1 i1 k0 k1=>?_;walk_at"s";refine V2 rfl i1 (by decide) fun u d2 i2 u0 u1=>?_;walk_at"s";refine V2 rfl i2 (by decide) fun v d3 i3 v0 v1=>?_;walk_at"s"
   by_cases h4:k=4
   . rw [if_pos h4]; walk_at"z"; exact ⟨_,d3,i3,rfl,rfl⟩
   . rw [if_neg h4];walk_at"s"
     by_cases h5:k=5
     . rw [if_pos h5]; walk_at"z"; exact ⟨_,d3,i3,rfl,rfl⟩
     . rw [if_neg h5];walk_at"s"
       by_cases h6:k=6
       . rw [if_pos h6]; walk_at"z"; exact ⟨_,d3,i3,rfl,rfl⟩
       . rw [if_neg h6];walk_at"s"
         by_cases h7:k=7
         . rw [if_pos h7]; walk_at"z"; exact ⟨_,d3,i3,rfl,rfl⟩
         . rw [if_neg h7];walk_at"s";refine ⟨hm,?_⟩;walk_at"z";exact ⟨_,d3,i3,rfl,rfl⟩
 obtain ⟨z,h,e,v,ds',h1,rfl,rfl⟩:=Qu8 w;exact ⟨v,ds',h1,e⟩
theorem Xa3 {i:Nat} {ds:List D} {m:Int} {h:ZH} {Q:Z->ZH->Prop} {E:ZX->ZH->Prop} (hi:h[i]? = some (.dl ds)) (hd:Ints ds) (hm:0<m) (k:∀ v ds',Ints ds'->Q (.d (.int v)) (h.set i (.dl ds'))):(J8 M_law_value [.r i,.d (.int m)] h).wp Q E:=by
 obtain ⟨v,ds',h1,e⟩:=QQ1 hd hm;exact Qu7 (Qn6 (xs:=[.int m]) hi e) (k v ds' h1)
theorem V0 {a:List Int} (hl:a.length<1000):M_law_same [.d (.tup (a.map .int)),.d (.tup (a.map .int))] [] = .ok (.d (.bl true)) []:=by
 refine K5 ?_;unfold M_law_same Qm2;walk_at"s";refine ⟨Qo0 (n:=(a.map D.int).length) (by rw [Xq5]; omega),?_⟩;refine QN9 (fun i s h=>s=[some (.d (.tup (a.map .int))),some (.d (.tup (a.map .int))),none]/\h=[]) ⟨rfl,rfl⟩ ?_ ?_
 . rintro i s h hi ⟨es,eh⟩;rw [Xq5] at hi;have e:atD (a.map D.int) (i:Int)=some (.int a[i]):=by rw [Zl.at_nat,Xq7,Xq6 hi]; rfl
   rw [es,eh];walk_at"s";rw [e];walk_at"s";refine X9 (xs:=[_]) (QP6 _) ?_;walk_at"s";rw [e];walk_at"s";rw [e];walk_at"z"
 . rintro s h ⟨es,eh⟩;rw [es,eh];walk_at"z"
end
section
abbrev cR (k:Nat) (cs:List (List Nat)) (n:Int):ZO:=.ins X2 [(f_names,.d (.tupN (cs.map .str))),(f_size,.d (.int n)),(f_current,.r k)]
theorem Qk1 {c:Nat} {fs:List (Nat × Z)} {t:ZH}:Qa4 (.r 0) (.ins c fs::t)=some c:=rfl
theorem O2 {c:Nat} {o:ZO} {fs:List (Nat × Z)} {t:ZH}:Qa4 (.r 1) (o :: .ins c fs::t)=some c:=rfl
theorem in_ts {n:Bool} {x:List Nat} {ys:List (List Nat)} {h:ZH}:QC0 n (.d (.str x)) (.d (.tup (ys.map .str))) h = .ok (.d (.bl (if n then !decide (x∈ys) else decide (x∈ys)))) h:=by
 show (match N5 (.d (.str x)) h,N5 (.d (.tup (ys.map .str))) h with
   | some p,some q=>match QM1 p q with
     | some k=>Out.ok (Z.d (.bl (if n then !k else k))) h
     | none=>.bad
   | _,_=>.bad)=_
 rw [QS0,QS0];dsimp only;rw [pyIn_t rfl Qi3 (by rw [show dep (D.str x)=0 from rfl]; decide) (by rw [Qi4]; decide)];dsimp only;have:(D.str x∈ys.map D.str)↔x∈ys:=by simp
 rw [decide_eq_decide.mpr this]
theorem Z0 {cs:List (List Nat)} {n:Int} {vs:List Int}:M_Cells_contents_get [.r 0] [cR 1 cs n,.dl (vs.map .int)] = .ok (.d (.tup (vs.map .int))) [cR 1 cs n,.dl (vs.map .int)]:=by
 refine K5 ?_;unfold M_Cells_contents_get O0;walk_at"z"
theorem QQ2 {cs:List (List Nat)} {n:Int} (hb:F8 cs=true) (hn:1<=n/\n<=3) (hl:cs.length<1000) (hs:∀ c∈cs,c.length<=1000000):M_Cells_init [.r 0,.d (.lst (cs.map .str)),.d (.int n)] [.ins X2 []] = .ok (.d .non) [cR 1 cs n,.dl ((List.replicate cs.length (0:Int)).map .int)]:=by
 refine K5 ?_;unfold M_Cells_init Qe2;walk_at"s";refine U4 (zs':=[.d (.lst (cs.map .str))]) (h0:=[]) [] rfl rfl rfl rfl ?_;refine Out.wp_mono (Xa1 hl hs) (fun z os hz=>?_) (fun x os hz=>?_)
 . obtain ⟨_,rfl,rfl⟩:=hz;rw [show Q9 [] [.ins X2 []] []=[.ins X2 []] from rfl];walk_at"s";refine U4 (zs':=[.d (.int n)]) (h0:=[]) [] rfl rfl rfl rfl ?_;refine Out.wp_mono (Xa2 (h:=[])) (fun z os hz=>?_) (fun x os hz=>?_)
   . obtain ⟨_,rfl,rfl⟩:=hz;rw [show Q9 [] [.ins X2 []] []=[.ins X2 []] from rfl];walk_at"s";rw [Xq5,rep_1,QL0];refine ⟨⟨by omega,by omega,by omega⟩,?_⟩;change (OutS.nx [none,none,none] [cR 1 cs n,.dl ((List.replicate cs.length (0:Int)).map .int)]).wp _;walk_at"z"
   . obtain ⟨hz,_⟩:=hz;exact absurd hn hz
 . obtain ⟨hz,_⟩:=hz;rw [hb] at hz;cases hz
end
section
def Qh1 (cs:List (List Nat)) (vs:List Int) (c:List Nat) (v:Int):List Int:=vs.set (cs.idxOf c) v
def Ql3 (cs:List (List Nat)) (n:Int) (c:List Nat) (v:Int):Option ZX:=if c∈cs then if 0<=v/\v<n then none else some ⟨cOutOfRange,[.int v,.str c]⟩ else some ⟨cUnknownCell,[.str c]⟩
theorem Qs8 {cs:List (List Nat)} {n:Int} {vs:List Int} {c:List Nat} {v:Int} (hl:vs.length=cs.length):(M_Cells_setitem [.r 0,.d (.str c),.d (.int v)] [cR 1 cs n,.dl (vs.map .int)]).wp
   (fun z h=>Ql3 cs n c v=none/\z = .d .non/\h=[cR 1 cs n,.dl ((Qh1 cs vs c v).map .int)])
   (fun x h=>Ql3 cs n c v=some x/\h=[cR 1 cs n,.dl (vs.map .int)]):=by
 unfold M_Cells_setitem C2;walk_at"s";rw [in_ts];walk_at"s"
 by_cases hc:c∈cs
 . rw [if_neg (fun z=>z hc)];walk_at"s"
   by_cases h0:0<=v
   . rw [if_pos (by simpa using h0)];walk_at"s"
     by_cases h1:v<n
     . rw [if_neg (by simpa using h1)];rw [show Ql3 cs n c v=none by unfold Ql3; rw [if_pos hc,if_pos ⟨h0,h1⟩]];walk_at"s";refine ⟨hc,?_⟩;have hi:cs.idxOf c<vs.length:=by rw [hl]; exact List.idxOf_lt_length_of_mem hc
       rw [F7 (by omega) (by rw [Xq5]; omega)];walk_at"z";unfold Qh1;rw [List.map_set]
     . rw [if_pos (by simpa using h1)];walk_at"z";unfold Ql3;rw [if_pos hc,if_neg (fun z=>h1 z.2)];rfl
   . rw [if_neg (by simpa using h0)];walk_at"z";unfold Ql3;rw [if_pos hc,if_neg (fun z=>h0 z.1)];rfl
 . rw [if_pos hc];walk_at"z";unfold Ql3;rw [if_neg hc];rfl
end
section
theorem D0 {cs:List (List Nat)} {n:Int} {vs:List Int} {c:List Nat} {v:Int} (hl:vs.length=cs.length):(M_Cells_change [.r 0,.d (.str c),.d (.int v)] [cR 1 cs n,.dl (vs.map .int)]).wp
   (fun z h=>Ql3 cs n c v=none/\z = .d .non/\h=[cR 1 cs n,.dl ((Qh1 cs vs c v).map .int)])
   (fun x h=>Ql3 cs n c v=some x/\h=[cR 1 cs n,.dl (vs.map .int)]):=by
 unfold M_Cells_change D9;walk_at"s";rw [Qk1,show (some X2).bind mtO_setitem=some M_Cells_setitem from rfl];walk_at"s";refine U4 (zs':=[.r 0,.d (.str c),.d (.int v)]) (h0:=[cR 1 cs n,.dl (vs.map .int)]) [0,1] rfl rfl rfl rfl ?_;refine Out.wp_mono (Qs8 hl) (fun z os hz=>?_) (fun x os hz=>?_)
 . obtain ⟨hb,rfl,rfl⟩:=hz;rw [show Q9 [0,1] [cR 1 cs n,.dl (vs.map .int)] [cR 1 cs n,.dl ((Qh1 cs vs c v).map .int)]=[cR 1 cs n,.dl ((Qh1 cs vs c v).map .int)] from rfl];walk_at"z";exact hb
 . obtain ⟨hb,rfl⟩:=hz;rw [show Q9 [0,1] [cR 1 cs n,.dl (vs.map .int)] [cR 1 cs n,.dl (vs.map .int)]=[cR 1 cs n,.dl (vs.map .int)] from rfl];walk_at"z";exact hb
def UNK:List Nat:=[117,110,107,110,111,119,110]
def RNG:List Nat:=[114,97,110,103,101]
theorem at_end {cs:List (List Nat)} (h:cs≠[]):∃ l∈cs,atD (cs.map D.str) (-1)=some (.str l):=by
 have hl:0<cs.length:=List.length_pos_iff.mpr h;refine ⟨cs[cs.length - 1],List.getElem_mem _,?_⟩;unfold atD;unfold ixN;rw [if_neg (by decide),Xq5,if_pos (by omega)];rw [Option.bind_some,show (-1+(cs.length:Int)).toNat=cs.length - 1 by omega,Xq7,Xq6 (by omega)];rfl
theorem QB7 {cs:List (List Nat)} {ds:List D} (hc:H5 cs) (h0:cs≠[]) (hd:Ints ds):∃ w ds',w∉cs/\Ints ds'/\M_law_strange [.r 0,.d (.lst (cs.map .str))] [.dl ds] = .ok (.d (.str w)) [.dl ds']:=by
 have w:(M_law_strange [.r 0,.d (.lst (cs.map .str))] [.dl ds]).wp (fun z h=>∃ w ds',w∉cs/\Ints ds'/\z = .d (.str w)/\h=[.dl ds']) (fun _ _=>False):=by
   obtain ⟨l,hl,el⟩:=at_end h0
   have ef:∃ f∈cs,(cs.map D.str)[0]? = some (.str f):=by
     cases cs with
     | nil=>exact absurd rfl h0
     | cons f t=>exact ⟨f,Xr1,rfl⟩
   obtain ⟨f,hf,ef⟩:=ef;have lf:=(hc.2 f hf).2;have ll:=(hc.2 l hl).2;unfold M_law_strange Qb2;walk_at"s";rw [ef];walk_at"s";refine ⟨by omega,?_⟩;rw [ef];walk_at"s";rw [el];walk_at"s";refine ⟨by omega,?_⟩;rw [ef];walk_at"s";refine ⟨⟨fun c hcc=>by have:=lf.2 c hcc; omega,by omega⟩,?_⟩;generalize Qx1 f (some 1) none=w1;generalize f++[113]=w0;generalize l++[122]=w2;generalize f.map QK0=w5
   have pick:∀ j:Int,0<=j->j<6 -> ∃ w,atD [.str w0,.str w1,.str w2,.str [],.str [65],.str w5] j=some (.str w):=fun j j0 j1=>by
     have:j=0\/j=1\/j=2\/j=3\/j=4\/j=5:=by omega
     rcases this with rfl | rfl | rfl | rfl | rfl | rfl <;> exact ⟨_,rfl⟩
   have lws:[D.str w0,.str w1,.str w2,.str [],.str [65],.str w5].length=6:=rfl;generalize [D.str w0,.str w1,.str w2,.str [],.str [65],.str w5]=ws at *;refine V2 rfl hd (by decide) fun v d1 i1 v0 v1=>?_;walk_at"s";rw [lws];refine ⟨R9 (by decide) (by decide),?_⟩;refine QN9 (fun i s h=>s=[some (.r 0),some (.d (.lst (cs.map .str))),some (.d (.lst ws)),some (.d (.int v)),none,none]/\h=[.dl d1]) ⟨rfl,rfl⟩ ?_ ?_
   . rintro i s h hi ⟨es,eh⟩;rw [es,eh];walk_at"s";rw [lws];obtain ⟨w,ew⟩:=pick ((v+(i:Int)) % 6) (by omega) (by omega);refine ⟨by decide,?_⟩;rw [show ((6:Nat):Int)=6 from rfl,ew];walk_at"s"
     by_cases hw:w∈cs
     . rw [if_neg (fun z=>z hw)];walk_at"z"
     . rw [if_pos hw];walk_at"z";exact ⟨w,d1,hw,i1,rfl,rfl⟩
   . rintro s h ⟨es,eh⟩;rw [es,eh];walk_at"z";exact ⟨[65],d1,fun z=>by have:=(hc.2 _ z).2.2 65 Xr1; omega,i1,rfl,rfl⟩
 obtain ⟨z,h,e,v,ds',h1,h2,rfl,rfl⟩:=Qu8 w;exact ⟨v,ds',h1,h2,e⟩
theorem QL1 {i:Nat} {ds:List D} {cs:List (List Nat)} {h:ZH} {Q:Z->ZH->Prop} {E:ZX->ZH->Prop} (hi:h[i]? = some (.dl ds)) (hc:H5 cs) (h0:cs≠[]) (hd:Ints ds) (k:∀ w ds',w∉cs->Ints ds'->Q (.d (.str w)) (h.set i (.dl ds'))):(J8 M_law_strange [.r i,.d (.lst (cs.map .str))] h).wp Q E:=by
 obtain ⟨v,ds',h1,h2,e⟩:=QB7 hc h0 hd;exact Qu7 (Qn6 (xs:=[.lst (cs.map .str)]) hi e) (k v ds' h1 h2)
end
section
end
section
theorem Qv9:∀ {xs ys:List D},Qf4 xs ys=(List.zipWith (fun x y=>D.tup [x,y]) xs ys).map .d
 | [],ys=>by simp [Qf4]
 | _::_,[]=>by simp [Qf4]
 | x::xs,y::ys=>by rw [List.zipWith_cons_cons,Xr4,<- Qv9]; rfl
theorem QL2 {cs:List (List Nat)} {st:List Int}:List.zipWith (fun x y=>D.tup [x,y]) (cs.map .str) (st.map .int)=(cs.zip st).map fun p=>D.tup [.str p.1,.int p.2]:=by
 rw [List.zipWith_map,List.zip,List.map_zipWith]
theorem QL3 {cs:List (List Nat)} {st:List Int} {i:Nat} {p:List Nat × Int} (h:(cs.zip st)[i]? = some p):cs[i]? = some p.1/\st[i]? = some p.2:=by
 rw [List.getElem?_zip_eq_some] at h;exact h
def SeqD (q:D) (xs:List D):Prop:=q = .tup xs\/q = .lst xs
theorem QL4 {cs:List (List Nat)} {n:Int} {vs st:List Int} {q:D} (hq:SeqD q (st.map .int)) (hl:cs.length<=3) (hs:st.length=cs.length) (hv:∀ v∈st,0<=v/\v<n):M_Cells_checked [.r 0,.d q] [cR 1 cs n,.dl (vs.map .int)] = .ok (.r 2) [cR 1 cs n,.dl (vs.map .int),.dl (st.map .int)]:=by
 rcases hq with rfl | rfl
 . refine K5 ?_;unfold M_Cells_checked L9;walk_at"s";rw [Xq5,Xq5];rw [if_neg (by omega)];walk_at"s";rw [Qv9];refine lstW (fun i s h=>s=[some (.r 0),some (.d (.tup (st.map .int))),none,none]/\h=[cR 1 cs n,.dl (vs.map .int)]) ⟨rfl,rfl⟩ ?_ ?_
   . intro i x s h hx hI;obtain ⟨es,eh⟩:=hI;rw [QL2] at hx;rw [Xq7] at hx;cases e:(cs.zip st)[i]? with
     | none=>rw [e] at hx; cases hx
     | some p =>
       rw [e] at hx;cases hx;obtain ⟨ec,ev⟩:=QL3 e;have hb:=hv p.2 (Xq8 ev);rw [es,eh];obtain ⟨c,v⟩:=p;dsimp only at *;walk_at"s";rw [if_pos (by simpa using hb.1)];walk_at"s";rw [if_neg (by simpa using hb.2)];walk_at"z"
   . intro s h hI;obtain ⟨es,eh⟩:=hI;rw [es,eh];walk_at"s";change (OutS.rt (.r 2) [cR 1 cs n,.dl (vs.map .int),.dl (st.map .int)]).wp _;walk_at"s"
 . refine K5 ?_;unfold M_Cells_checked L9;walk_at"s";rw [Xq5,Xq5];rw [if_neg (by omega)];walk_at"s";rw [Qv9];refine lstW (fun i s h=>s=[some (.r 0),some (.d (.lst (st.map .int))),none,none]/\h=[cR 1 cs n,.dl (vs.map .int)]) ⟨rfl,rfl⟩ ?_ ?_
   . intro i x s h hx hI;obtain ⟨es,eh⟩:=hI;rw [QL2] at hx;rw [Xq7] at hx;cases e:(cs.zip st)[i]? with
     | none=>rw [e] at hx; cases hx
     | some p =>
       rw [e] at hx;cases hx;obtain ⟨ec,ev⟩:=QL3 e;have hb:=hv p.2 (Xq8 ev);rw [es,eh];obtain ⟨c,v⟩:=p;dsimp only at *;walk_at"s";rw [if_pos (by simpa using hb.1)];walk_at"s";rw [if_neg (by simpa using hb.2)];walk_at"z"
   . intro s h hI;obtain ⟨es,eh⟩:=hI;rw [es,eh];walk_at"s";change (OutS.rt (.r 2) [cR 1 cs n,.dl (vs.map .int),.dl (st.map .int)]).wp _;walk_at"s"
end
end Zl
end
section
namespace Zl
open PySem PySem.Spec PyProof.Rows L2
section
variable {s:ZS} {h:ZH} {K:KS} {de:DE} {mt:Nat->Option (Sem × Sem)} {db:DS}
theorem QQ3 {MX:Sem} {z zr:Z} {h1:ZH} (e0:J8 MX [z,.d .non,.d .non,.d .non] h = .ok zr h1) (e:∀ a b t,((∃ c,t = .e c)\/t = .d .non)->J8 MX [z,.e a,.e b,t] h = .ok zr h1):Qs3 MX z h = .ok zr h1:=by
 unfold Qs3;rw [if_pos fun a b t ht=>(e a b t ht).trans e0.symm];exact e0
theorem QQ4 (w:(de s h).wp (fun z h1=>S9 ((Qa4 z h1).bind mt) fun m=>(J8 m.1 [z] h1).wp (fun _ h2=>(db s h2).wp
      { nx:=fun s3 h3=>(J8 m.2 [z,.d .non,.d .non,.d .non] h3).wp (fun y h4=>y = .d .non/\K.nx s3 h4) (fun _ _=>False)
        rt:=fun v h3=>(J8 m.2 [z,.d .non,.d .non,.d .non] h3).wp (fun y h4=>y = .d .non/\K.rt v h4) (fun _ _=>False)
        ex:=fun x s3 h3=>(Qs3 m.2 z h3).wp (fun y h4=>y = .d .non/\K.ex x s3 h4) (fun _ _=>False) }) (fun _ _=>False)) (fun x h1=>K.ex x s h1)):(QK7 de mt db s h).wp K:=by
  unfold QK7;cases e:de s h with
  | bad=>rw [e,wp_bad] at w; exact w.elim
  | exc x h1=>rw [e,wp_exc] at w; dsimp only; rw [wps_exc]; exact w
  | ok z h1 =>
    rw [e,wp_ok] at w;dsimp only;unfold QP4;cases c:Qa4 z h1 with
    | none=>rw [c,show (none:Option Nat).bind mt=none from rfl,optP_none] at w; exact w.elim
    | some c1 =>
      rw [c,show (some c1).bind mt=mt c1 from rfl] at w;dsimp only;cases m:mt c1 with
      | none=>rw [m,optP_none] at w; exact w.elim
      | some p =>
        rw [m,optP_some] at w;obtain ⟨ME,MX⟩:=p;dsimp only at w ⊢;cases k:J8 ME [z] h1 with
        | bad=>rw [k,wp_bad] at w; exact w.elim
        | exc x h2=>rw [k,wp_exc] at w; exact w.elim
        | ok y h2 =>
          rw [k,wp_ok] at w;dsimp only
          have key:∀ {o:Out Z} {Q:ZH->Prop} {f:ZH->OutS},o.wp (fun y h4=>y = .d .non/\Q h4) (fun _ _=>False) -> ∃ h4,o = .ok (.d .non) h4/\Q h4:=fun {o Q f} q=>by
            cases o with
            | ok a h4=>rw [wp_ok] at q; exact ⟨h4,by rw [q.1],q.2⟩
            | exc x h4=>rw [wp_exc] at q; exact q.elim
            | bad=>rw [wp_bad] at q; exact q.elim
          cases b:db s h2 with
          | bad=>rw [b,wps_bad] at w; exact w.elim
          | bk s3 h3=>rw [b,wps_bk] at w; exact w.elim
          | ct s3 h3=>rw [b,wps_ct] at w; exact w.elim
          | nx s3 h3 =>
            rw [b,wps_nx] at w;obtain ⟨h4,e4,q⟩:=key (f:=fun _=>.bad) w;unfold Qj4;dsimp only;rw [e4];dsimp only;rw [wps_nx];exact q
          | rt v h3 =>
            rw [b,wps_rt] at w;obtain ⟨h4,e4,q⟩:=key (f:=fun _=>.bad) w;unfold Qj4;dsimp only;rw [e4];dsimp only;rw [wps_rt];exact q
          | exc x s3 h3 =>
            rw [b,wps_exc] at w;obtain ⟨h4,e4,q⟩:=key (f:=fun _=>.bad) w;unfold Qj4;dsimp only;rw [e4];dsimp only;rw [wps_exc];exact q
end
end Zl
end
section
namespace Zl
open PySem PySem.Spec PyProof.Rows L2 TL
section
def chD (p:List Nat × Int):D:=.tup [.str p.1,.int p.2]
def T3 (cs:List (List Nat)) (n:Int):List Int->List (List Nat × Int)->Option ZX × List Int
 | vs,[]=>(none,vs)
 | vs,p::r=>match Ql3 cs n p.1 p.2 with
   | some x=>(some x,vs)
   | none=>T3 cs n (Qh1 cs vs p.1 p.2) r
theorem QQ5 {cs:List (List Nat)} {n:Int} {vs:List Int}:M_Trial_enter [.r 0] [.ins Q5 [(f_cells,.r 1),(f_saved,.d (.lst []))],cR 2 cs n,.dl (vs.map .int)] = .ok (.r 1) [.ins Q5 [(f_cells,.r 1),(f_saved,.r 3)],cR 2 cs n,.dl (vs.map .int),.dl (vs.map .int)]:=by
 refine K5 ?_;unfold M_Trial_enter Qb5;walk_at"z";rw [show gcS 3 (OutS.rt (Z.r 1) [ZO.ins Q5 [(14,Z.r 1),(15,Z.r 3)],cR 2 cs n,ZO.dl (List.map D.int vs),ZO.dl (List.map D.int vs)]) = .rt (Z.r 1) [ZO.ins Q5 [(14,Z.r 1),(15,Z.r 3)],cR 2 cs n,ZO.dl (List.map D.int vs),ZO.dl (List.map D.int vs)] from rfl];walk_at"z"
theorem QQ6 {cs:List (List Nat)} {n:Int} {vs:List Int}:M_Trial_init [.r 0,.r 1] [.ins Q5 [],cR 2 cs n,.dl (vs.map .int)] = .ok (.d .non) [.ins Q5 [(f_cells,.r 1),(f_saved,.d (.lst []))],cR 2 cs n,.dl (vs.map .int)]:=by
 refine K5 ?_;unfold M_Trial_init Qe3;walk_at"z"
theorem R8 {cs:List (List Nat)} {n:Int} {vs:List Int}:M_Cells_trial [.r 0] [cR 1 cs n,.dl (vs.map .int)] = .ok (.r 2) [cR 1 cs n,.dl (vs.map .int),.ins Q5 [(f_cells,.r 0),(f_saved,.d (.lst []))]]:=by
 refine K5 ?_;unfold M_Cells_trial Qb4;walk_at"s";refine U4 (zs':=[.r 0,.r 1]) (h0:=[.ins Q5 [],cR 2 cs n,.dl (vs.map .int)]) [2,0,1] rfl rfl rfl rfl ?_;rw [QQ6,wp_ok];rw [show Q9 [2,0,1] [cR 1 cs n,.dl (vs.map .int),.ins Q5 []] [.ins Q5 [(f_cells,.r 1),(f_saved,.d (.lst []))],cR 2 cs n,.dl (vs.map .int)]=[cR 1 cs n,.dl (vs.map .int),.ins Q5 [(f_cells,.r 0),(f_saved,.d (.lst []))]] from rfl,show ∀ m,unZ [2,0,1] m (.d .non) = .d .non from fun _=>rfl];refine ⟨rfl,?_⟩;rw [show ∀ h,Qz5 true Q5 2 h = .ok (.r 2) h from fun _=>rfl,wp_ok];walk_at"z";rw [show gcS 2 (OutS.rt (Z.r 2) [cR 1 cs n,ZO.dl (List.map D.int vs),ZO.ins Q5 [(14,Z.r 0),(15,Z.d (D.lst []))]]) = .rt (Z.r 2) [cR 1 cs n,ZO.dl (List.map D.int vs),ZO.ins Q5 [(14,Z.r 0),(15,Z.d (D.lst []))]] from rfl];walk_at"z"
theorem Xa4 {cs:List (List Nat)} {n:Int} {vs ws:List Int} {a b c:Z}:M_Trial_exit [.r 0,a,b,c] [.ins Q5 [(f_cells,.r 1),(f_saved,.r 3)],cR 2 cs n,.dl (ws.map .int),.dl (vs.map .int)] = .ok (.d .non) [.ins Q5 [(f_cells,.r 1),(f_saved,.r 3)],cR 3 cs n,.dl (ws.map .int),.dl (vs.map .int)]:=by
 refine K5 ?_;unfold M_Trial_exit Qe4;walk_at"z"
theorem D1 {cs:List (List Nat)} {n:Int} {vs:List Int} {q:List Nat × Int} {r:List (List Nat × Int)} (e:Ql3 cs n q.1 q.2=none):T3 cs n vs (q::r)=T3 cs n (Qh1 cs vs q.1 q.2) r:=by
 rw [T3,e]
theorem G5 {cs:List (List Nat)} {n:Int} {vs:List Int} {q:List Nat × Int} {r:List (List Nat × Int)} {x:ZX} (e:Ql3 cs n q.1 q.2=some x):T3 cs n vs (q::r)=(some x,vs):=by
 rw [T3,e]
theorem Qy8 {cs:List (List Nat)} {n:Int}:∀ {chs:List (List Nat × Int)} {vs:List Int} {p:List Nat × Int},(T3 cs n vs chs).1=none->T3 cs n vs (chs++[p])=T3 cs n (T3 cs n vs chs).2 [p]
 | [],_,_,_=>rfl
 | q :: chs,vs,p,h=>by
   cases e:Ql3 cs n q.1 q.2 with
   | some x=>rw [G5 e] at h; cases h
   | none =>
     rw [D1 e] at h ⊢;rw [List.cons_append,D1 e];exact Qy8 h
theorem Qy9 {cs:List (List Nat)} {n:Int}:∀ {a b:List (List Nat × Int)} {vs:List Int} {x:ZX},(T3 cs n vs a).1=some x->T3 cs n vs (a++b)=T3 cs n vs a
 | [],_,_,_,h=>by cases h
 | q :: a,b,vs,x,h=>by
   cases e:Ql3 cs n q.1 q.2 with
   | some y=>rw [List.cons_append,G5 e,G5 e]
   | none =>
     rw [D1 e] at h ⊢;rw [List.cons_append,D1 e];exact Qy9 h
theorem Qw0 {cs:List (List Nat)} {n:Int}:∀ {a:List (List Nat × Int)} {vs:List Int},(T3 cs n vs a).2.length=vs.length
 | [],_=>rfl
 | q :: a,vs=>by
   unfold T3;cases e:Ql3 cs n q.1 q.2 with
   | some y=>rfl
   | none =>
     dsimp only;rw [Qw0];exact List.length_set ..
theorem QL5 {cs:List (List Nat)} {n:Int} {us vs:List Int} {a b t:Z} (ha:(∃ c,a = .e c)\/a = .d .non) (hb:(∃ c,b = .e c)\/b = .d .non) (ht:(∃ c,t = .e c)\/t = .d .non) :
   J8 M_Trial_exit [.r 2,a,b,t] [cR 1 cs n,.dl (us.map .int),.ins Q5 [(f_cells,.r 0),(f_saved,.r 3)],.dl (vs.map .int)] = .ok (.d .non) [cR 3 cs n,.dl (us.map .int),.ins Q5 [(f_cells,.r 0),(f_saved,.r 3)],.dl (vs.map .int)]:=by
 refine K5 ?_;rcases ha with ⟨a,rfl⟩ | rfl <;> rcases hb with ⟨b,rfl⟩ | rfl <;> rcases ht with ⟨t,rfl⟩ | rfl
 all_goals (
   refine U4 (h0:=[.ins Q5 [(f_cells,.r 1),(f_saved,.r 3)],cR 2 cs n,.dl (us.map .int),.dl (vs.map .int)]) [2,0,1,3] rfl rfl rfl rfl ?_;refine Qu7 Xa4 ?_
   exact ⟨rfl,rfl⟩)
theorem exit_x {cs:List (List Nat)} {n:Int} {us vs:List Int} :
   Qs3 M_Trial_exit (.r 2) [cR 1 cs n,.dl (us.map .int),.ins Q5 [(f_cells,.r 0),(f_saved,.r 3)],.dl (vs.map .int)] = .ok (.d .non) [cR 3 cs n,.dl (us.map .int),.ins Q5 [(f_cells,.r 0),(f_saved,.r 3)],.dl (vs.map .int)] :=
 QQ3 (QL5 (.inr rfl) (.inr rfl) (.inr rfl)) fun a b t ht=>QL5 (.inl ⟨a,rfl⟩) (.inl ⟨b,rfl⟩) ht
theorem peek_w {cs:List (List Nat)} {n:Int} {vs:List Int} {chs:List (List Nat × Int)} (hl:vs.length=cs.length):(M_Cells_peek [.r 0,.d (.lst (chs.map chD))] [cR 1 cs n,.dl (vs.map .int)]).wp
   (fun z h=>(T3 cs n vs chs).1=none/\z = .d (.tup ((T3 cs n vs chs).2.map .int))/\h=[cR 2 cs n,.dl ((T3 cs n vs chs).2.map .int),.dl (vs.map .int)])
   (fun x h=>(T3 cs n vs chs).1=some x/\h=[cR 2 cs n,.dl ((T3 cs n vs chs).2.map .int),.dl (vs.map .int)]):=by
 unfold M_Cells_peek Qe5;walk_at"s";refine QQ4 ?_;walk_at"s";rw [Qk1,show (some X2).bind mtSelfCells_trial=some M_Cells_trial from rfl];walk_at"s";refine U4 (zs':=[.r 0]) (h0:=[cR 1 cs n,.dl (vs.map .int)]) [0,1] rfl rfl rfl rfl ?_;rw [R8,wp_ok]
 rw [show unZ [0,1] [cR 1 cs n,ZO.dl (vs.map .int)].length (.r 2) = .r 2 from rfl,show Q9 [0,1] [cR 1 cs n,ZO.dl (vs.map .int)] [cR 1 cs n,ZO.dl (vs.map .int),ZO.ins Q5 [(f_cells,Z.r 0),(f_saved,Z.d (D.lst []))]]=[cR 1 cs n,ZO.dl (vs.map .int),ZO.ins Q5 [(f_cells,Z.r 0),(f_saved,Z.d (D.lst []))]] from rfl,
   show (Qa4 (.r 2) [cR 1 cs n,ZO.dl (vs.map .int),ZO.ins Q5 [(f_cells,Z.r 0),(f_saved,Z.d (D.lst []))]]).bind mtWithTrial=some (M_Trial_enter,M_Trial_exit) from rfl,optP_some]
 dsimp only;refine U4 (zs':=[.r 0]) (h0:=[.ins Q5 [(f_cells,.r 1),(f_saved,.d (.lst []))],cR 2 cs n,.dl (vs.map .int)]) [2,0,1] rfl rfl rfl rfl ?_;rw [QQ5,wp_ok];rw [show Q9 [2,0,1] [cR 1 cs n,ZO.dl (vs.map .int),ZO.ins Q5 [(f_cells,Z.r 0),(f_saved,Z.d (D.lst []))]] [.ins Q5 [(f_cells,.r 1),(f_saved,.r 3)],cR 2 cs n,.dl (vs.map .int),.dl (vs.map .int)]=[cR 1 cs n,ZO.dl (vs.map .int),ZO.ins Q5 [(f_cells,Z.r 0),(f_saved,Z.r 3)],ZO.dl (vs.map .int)] from rfl];walk_at"s";refine lstW (fun i s h=>s=[some (.r 0),some (.d (.lst (chs.map chD))),none,none]/\(T3 cs n vs (chs.take i)).1=none/\h=[cR 1 cs n,.dl ((T3 cs n vs (chs.take i)).2.map .int),.ins Q5 [(f_cells,.r 0),(f_saved,.r 3)],.dl (vs.map .int)]) ⟨rfl,rfl,rfl⟩ ?_ ?_
 . rintro i x s h hx ⟨es,en,eh⟩;rw [es,eh];rw [Xq7] at hx;cases e:chs[i]? with
   | none=>rw [e] at hx; cases hx
   | some p =>
     rw [e] at hx;cases hx;have et:chs.take (i+1)=chs.take i++[p]:=by rw [List.take_add_one,e]; rfl
     have el:(T3 cs n vs (chs.take i)).2.length=cs.length:=by rw [Qw0]; exact hl
     have eq:=Qy8 (p:=p) en;generalize (T3 cs n vs (chs.take i)).2=us at *;unfold chD;walk_at"s";rw [Qk1,show (some X2).bind mtO_setitem=some M_Cells_setitem from rfl];walk_at"s";refine U4 (zs':=[.r 0,.d (.str p.1),.d (.int p.2)]) (h0:=[cR 1 cs n,.dl (us.map .int)]) [0,1] rfl rfl rfl rfl ?_;refine Out.wp_mono (Qs8 el) (fun z os hz=>?_) (fun x os hz=>?_)
     . obtain ⟨hb,rfl,rfl⟩:=hz;walk_at"z";rw [et,eq,D1 hb];exact ⟨rfl,rfl⟩
     . obtain ⟨hb,rfl⟩:=hz
       have hc:T3 cs n vs chs=(some x,us):=by
         have e1:chs=(chs.take i++[p])++chs.drop (i+1):=by rw [<- et,List.take_append_drop]
         have e2:(T3 cs n vs (chs.take i++[p])).1=some x:=by rw [eq,G5 hb]
         rw [e1,Qy9 e2,eq,G5 hb]
       rw [hc];walk_at"s";rw [show ∀ y,gcS 4 (OutS.exc x [some (.r 0),some (.d y),none,none] (Q9 [0,1] [cR 1 cs n,ZO.dl (us.map .int),ZO.ins Q5 [(14,Z.r 0),(15,Z.r 3)],ZO.dl (vs.map .int)] [cR 1 cs n,ZO.dl (us.map .int)])) = .exc x [some (.r 0),some (.d y),none,none] [cR 1 cs n,ZO.dl (us.map .int),ZO.ins Q5 [(14,Z.r 0),(15,Z.r 3)],ZO.dl (vs.map .int)] from fun _=>rfl];walk_at"s";rw [exit_x,wp_ok];refine ⟨rfl,?_⟩;walk_at"s";rw [show ∀ ys,gcS 2 (OutS.exc x [none,none,none,none] [cR 3 cs n,ZO.dl ys,ZO.ins Q5 [(14,Z.r 0),(15,Z.r 3)],ZO.dl (List.map D.int vs)]) = .exc x [none,none,none,none] [cR 2 cs n,ZO.dl ys,ZO.dl (List.map D.int vs)] from fun _=>rfl];walk_at"z"
       done
 . rintro s h ⟨es,en,eh⟩;rw [es,eh];rw [Xq5,List.take_length] at en ⊢;walk_at"s";rw [Qk1,show (some X2).bind mtP_contents=some M_Cells_contents_get from rfl];walk_at"s";refine U4 (zs':=[.r 0]) (h0:=[cR 1 cs n,.dl ((T3 cs n vs chs).2.map .int)]) [0,1] rfl rfl rfl rfl ?_;refine Qu7 Z0 ?_;rw [show ∀ (x:ZO) ys,Q9 [0,1] [cR 1 cs n,.dl ys,x,.dl (vs.map .int)] [cR 1 cs n,.dl ys]=[cR 1 cs n,.dl ys,x,.dl (vs.map .int)] from fun _ _=>rfl,show ∀ m d,unZ [0,1] m (.d d) = .d d from fun _ _=>rfl,QL5 (.inr rfl) (.inr rfl) (.inr rfl),wp_ok];walk_at"s";rw [show ∀ ys,gcS 2 (OutS.rt (.d (.tup ys)) [cR 3 cs n,ZO.dl ys,ZO.ins Q5 [(14,Z.r 0),(15,Z.r 3)],ZO.dl (vs.map .int)]) = .rt (.d (.tup ys)) [cR 2 cs n,ZO.dl ys,ZO.dl (vs.map .int)] from fun _=>rfl];walk_at"z";exact en
end
section
theorem QB8 {o:OutS} {K:KS} (P:ZS->ZH->Prop) (w:o.wp ⟨P,fun _ _=>False,fun _ _=>False,fun _ _=>False,fun _ _ _=>False⟩) (k:∀ s h,P s h->K.nx s h):o.wp K :=
 OutS.wp_mono w k (fun _ _ z=>z.elim) (fun _ _ z=>z.elim) (fun _ _ z=>z.elim) (fun _ _ _ z=>z.elim)
def STA:List Nat:=[115,116,97,116,101]
def Qt1 (cs:List (List Nat)) (n:Int) (vs:List Int):List (List Nat × Int)->D
 | []=>.tup [.str STA,.tup (vs.map .int)]
 | p::r=>if p.1∈cs then if 0<=p.2/\p.2<n then Qt1 cs n (Qh1 cs vs p.1 p.2) r else .tup [.str RNG,.str p.1,.int p.2] else .tup [.str UNK,.str p.1]
theorem bad_u {cs:List (List Nat)} {n:Int} {c:List Nat} {v:Int} (h:c∉cs):Ql3 cs n c v=some ⟨cUnknownCell,[.str c]⟩:=by unfold Ql3; rw [if_neg h]
theorem bad_r {cs:List (List Nat)} {n:Int} {c:List Nat} {v:Int} (h:c∈cs) (hv:¬ (0<=v/\v<n)):Ql3 cs n c v=some ⟨cOutOfRange,[.int v,.str c]⟩:=by unfold Ql3; rw [if_pos h,if_neg hv]
theorem Qw1 {cs:List (List Nat)} {n:Int} {c:List Nat} {v:Int} (h:c∈cs) (hv:(0<=v/\v<n)):Ql3 cs n c v=none:=by unfold Ql3; rw [if_pos h,if_pos hv]
theorem out_u {cs:List (List Nat)} {n:Int} {vs:List Int} {p:List Nat × Int} {r:List (List Nat × Int)} (h:p.1∉cs):Qt1 cs n vs (p::r) = .tup [.str UNK,.str p.1]:=by rw [Qt1,if_neg h]
theorem Xa5 {cs:List (List Nat)} {n:Int} {vs:List Int} {p:List Nat × Int} {r:List (List Nat × Int)} (h:p.1∈cs) (hv:¬ (0<=p.2/\p.2<n)):Qt1 cs n vs (p::r) = .tup [.str RNG,.str p.1,.int p.2]:=by rw [Qt1,if_pos h,if_neg hv]
theorem out_n {cs:List (List Nat)} {n:Int} {vs:List Int} {p:List Nat × Int} {r:List (List Nat × Int)} (h:p.1∈cs) (hv:(0<=p.2/\p.2<n)):Qt1 cs n vs (p::r)=Qt1 cs n (Qh1 cs vs p.1 p.2) r:=by rw [Qt1,if_pos h,if_pos hv]
theorem Qp4 {cs:List (List Nat)} {n:Int}:∀ {chs:List (List Nat × Int)} {vs:List Int},((T3 cs n vs chs).1=none/\Qt1 cs n vs chs = .tup [.str STA,.tup ((T3 cs n vs chs).2.map .int)]) \/
   (∃ c,(T3 cs n vs chs).1=some ⟨cUnknownCell,[.str c]⟩/\Qt1 cs n vs chs = .tup [.str UNK,.str c])\/(∃ c v,(T3 cs n vs chs).1=some ⟨cOutOfRange,[.int v,.str c]⟩/\Qt1 cs n vs chs = .tup [.str RNG,.str c,.int v])
 | [],vs=>.inl ⟨rfl,rfl⟩
 | p :: r,vs=>by
   by_cases h:p.1∈cs
   . by_cases hv:0<=p.2/\p.2<n
     . rw [out_n h hv,D1 (Qw1 h hv)];exact Qp4
     . rw [Xa5 h hv,G5 (bad_r h hv)];exact .inr (.inr ⟨_,_,rfl,rfl⟩)
   . rw [out_u h,G5 (bad_u h)];exact .inr (.inl ⟨_,rfl,rfl⟩)
theorem Qd0 {cs:List (List Nat)} {m:Nat} {vs:List Int} {chs:List (List Nat × Int)} (hl:vs.length=cs.length) (h3:cs.length<=3) :
   M_law_due [.d (.lst (cs.map .str)),.d (.int (m:Int)),.r 0,.d (.lst (chs.map chD))] [.dl (vs.map .int)] = .ok (.d (Qt1 cs m vs chs)) [.dl (vs.map .int)]:=by
 refine K5 ?_;unfold M_law_due Qs4;walk_at"s";refine lstW (fun i s h=>∃ us:List Int,us.length=cs.length/\Qt1 cs m us (chs.drop i)=Qt1 cs m vs chs/\s=[some (.d (.lst (cs.map .str))),some (.d (.int (m:Int))),some (.r 0),some (.d (.lst (chs.map chD))),some (.r 1),none]/\h=[.dl (vs.map .int),.dl (us.map .int)]) ⟨vs,hl,rfl,rfl,rfl⟩ ?_ ?_
 . rintro i x s h hx ⟨us,lu,eo,es,eh⟩;rw [es,eh];rw [Xq7] at hx;cases e:chs[i]? with
   | none=>rw [e] at hx; cases hx
   | some p =>
     rw [e] at hx;cases hx;have hi:i<chs.length:=(Xr0.mp e).1
     have ed:chs.drop i=p::chs.drop (i+1):=by
       rw [List.drop_eq_getElem_cons hi]
       congr 1
       exact (Xr0.mp e).2
     rw [ed] at eo;unfold chD;walk_at"s"
     by_cases hw:p.1∈cs
     . rw [if_neg (fun z=>z hw)];walk_at"s"
       by_cases x0:p.2<0
       . rw [if_pos x0];walk_at"z";rw [<- eo,Xa5 hw (fun z=>by omega)]
         first | rfl | exact ⟨rfl,rfl⟩ | trivial
       . rw [if_neg x0];walk_at"s"
         by_cases x1:(m:Int)<=p.2
         . rw [if_pos x1];walk_at"z";rw [<- eo,Xa5 hw (fun z=>by omega)]
           first | rfl | exact ⟨rfl,rfl⟩ | trivial
         . rw [if_neg x1];walk_at"s";refine ⟨hw,?_⟩;have hi:cs.idxOf p.1<us.length:=by rw [lu]; exact List.idxOf_lt_length_of_mem hw
           rw [F7 (by omega) (by rw [Xq5]; omega)];walk_at"z";refine ⟨Qh1 cs us p.1 p.2,by unfold Qh1; rw [List.length_set]; exact lu,?_,?_⟩
           . rw [<- eo,out_n hw ⟨by omega,by omega⟩]
           . unfold Qh1;rw [List.map_set]
             try exact ⟨rfl,rfl⟩
     . rw [if_pos hw];walk_at"z";rw [<- eo,out_u hw]
       first | rfl | exact ⟨rfl,rfl⟩ | trivial
 . rintro s h ⟨us,lu,eo,es,eh⟩;rw [es,eh];rw [Xq5,List.drop_length] at eo;walk_at"s";rw [<- eo];walk_at"z"
   all_goals first | rfl | exact ⟨rfl,rfl⟩ | trivial
theorem O6 {cs:List (List Nat)} {m:Nat} {vs:List Int} {chs:List (List Nat × Int)} (hl:vs.length=cs.length) :
   M_law_peeked [.r 0,.d (.lst (chs.map chD))] [cR 1 cs m,.dl (vs.map .int)] = .ok (.d (Qt1 cs m vs chs)) [cR 2 cs m,.dl ((T3 cs m vs chs).2.map .int),.dl (vs.map .int)]:=by
 refine K5 ?_;unfold M_law_peeked Qe6;walk_at"s";rw [Qk1,show (some X2).bind mtCells_peek=some M_Cells_peek from rfl];walk_at"s";refine U4 (zs':=[.r 0,.d _]) (h0:=[cR 1 cs m,.dl (vs.map .int)]) [0,1] rfl rfl rfl rfl ?_;refine Out.wp_mono (peek_w hl) (fun z os hz=>?_) (fun x os hz=>?_)
 . obtain ⟨hb,rfl,rfl⟩:=hz;rcases Qp4 (cs:=cs) (n:=(m:Int)) (chs:=chs) (vs:=vs) with ⟨_,e2⟩ | ⟨c,e1,_⟩ | ⟨c,v,e1,_⟩
   . rw [e2];generalize (T3 cs (m:Int) vs chs).2=us;rw [show Q9 [0,1] [cR 1 cs (m:Int),.dl (vs.map .int)] [cR 2 cs (m:Int),ZO.dl (us.map .int),ZO.dl (vs.map .int)]=[cR 2 cs (m:Int),ZO.dl (us.map .int),ZO.dl (vs.map .int)] from rfl,show ∀ n d,unZ [0,1] n (.d d) = .d d from fun _ _=>rfl];walk_at"s";rw [show ∀ z ys,gcS 2 (OutS.rt (Z.d z) [cR 2 cs (m:Int),ZO.dl ys,ZO.dl (vs.map .int)]) = .rt (Z.d z) [cR 2 cs (m:Int),ZO.dl ys,ZO.dl (vs.map .int)] from fun _ _=>rfl];walk_at"z"
     all_goals first | rfl | exact ⟨rfl,rfl⟩ | trivial
   . rw [hb] at e1; cases e1
   . rw [hb] at e1; cases e1
 . obtain ⟨hb,rfl⟩:=hz;rcases Qp4 (cs:=cs) (n:=(m:Int)) (chs:=chs) (vs:=vs) with ⟨e1,e2⟩ | ⟨c,e1,e2⟩ | ⟨c,v,e1,e2⟩
   . rw [hb] at e1; cases e1
   . rw [hb] at e1;cases e1;rw [e2];generalize (T3 cs (m:Int) vs chs).2=us;rw [show Q9 [0,1] [cR 1 cs (m:Int),.dl (vs.map .int)] [cR 2 cs (m:Int),ZO.dl (us.map .int),ZO.dl (vs.map .int)]=[cR 2 cs (m:Int),ZO.dl (us.map .int),ZO.dl (vs.map .int)] from rfl];rw [tryM_ex,QI3 rfl];refine QS5 (z:=.d (.tup [.str UNK,.str c])) (h':=[cR 2 cs (m:Int),ZO.dl (us.map .int),ZO.dl (vs.map .int)]) (fun a=>?_) ?_
     . walk_at"s";rw [show List.lookup 0 ((X0 cUnknownCell).zip [D.str c])=some (D.str c) from rfl,excAt_e];walk_at"s";rfl
     . walk_at"s";rw [show ∀ z ys,gcS 2 (OutS.rt (Z.d z) [cR 2 cs (m:Int),ZO.dl ys,ZO.dl (vs.map .int)]) = .rt (Z.d z) [cR 2 cs (m:Int),ZO.dl ys,ZO.dl (vs.map .int)] from fun _ _=>rfl];walk_at"z"
       all_goals first | rfl | exact ⟨rfl,rfl⟩ | trivial
   . rw [hb] at e1;cases e1;rw [e2];generalize (T3 cs (m:Int) vs chs).2=us;rw [show Q9 [0,1] [cR 1 cs (m:Int),.dl (vs.map .int)] [cR 2 cs (m:Int),ZO.dl (us.map .int),ZO.dl (vs.map .int)]=[cR 2 cs (m:Int),ZO.dl (us.map .int),ZO.dl (vs.map .int)] from rfl];rw [tryM_ex,QY7 rfl,QI3 rfl];refine QS5 (z:=.d (.tup [.str RNG,.str c,.int v])) (h':=[cR 2 cs (m:Int),ZO.dl (us.map .int),ZO.dl (vs.map .int)]) (fun a=>?_) ?_
     . walk_at"s";rw [show List.lookup 0 ((X0 cOutOfRange).zip [D.int v,D.str c])=some (D.str c) from rfl,excAt_e];walk_at"s";rw [show List.lookup 1 ((X0 cOutOfRange).zip [D.int v,D.str c])=some (D.int v) from rfl,excAt_e];walk_at"s";rfl
     . walk_at"s";rw [show ∀ z ys,gcS 2 (OutS.rt (Z.d z) [cR 2 cs (m:Int),ZO.dl ys,ZO.dl (vs.map .int)]) = .rt (Z.d z) [cR 2 cs (m:Int),ZO.dl ys,ZO.dl (vs.map .int)] from fun _ _=>rfl];walk_at"z"
       all_goals first | rfl | exact ⟨rfl,rfl⟩ | trivial
theorem B2 {cs:List (List Nat)} {m:Nat} {ds:List D} (hc:H5 cs) (h0:cs≠[]) (h3:cs.length<=3) (hm:1<=m/\m<=3) (hd:Ints ds) :
   ∃ (chs:List (List Nat × Int)) (e:List D),chs.length<=4/\Ints e/\M_law_changes [.r 0,.d (.lst (cs.map .str)),.d (.int (m:Int))] [.dl ds] = .ok (.d (.lst (chs.map chD))) [.dl e]:=by
 have l0:0<cs.length:=List.length_pos_iff.mpr h0
 have w : (M_law_changes [.r 0,.d (.lst (cs.map .str)),.d (.int (m:Int))] [.dl ds]).wp (fun z h=>∃ (chs:List (List Nat × Int)) (e:List D),chs.length<=4/\Ints e/\z = .d (.lst (chs.map chD))/\h=[.dl e]) (fun _ _=>False):=by
   unfold M_law_changes Qb3;walk_at"s";refine V2 rfl hd (by decide) fun u d1 i1 u0 u1=>?_;walk_at"s"
   obtain ⟨k,hk,ek⟩:∃ k:Nat,k<=4/\atD [.int 2,.int 3,.int 1,.int 4,.int 0] u=some (.int (k:Int)):=by
     have:u=0\/u=1\/u=2\/u=3\/u=4:=by omega
     rcases this with rfl | rfl | rfl | rfl | rfl
     . exact ⟨2,by decide,rfl⟩
     . exact ⟨3,by decide,rfl⟩
     . exact ⟨1,by decide,rfl⟩
     . exact ⟨4,by decide,rfl⟩
     . exact ⟨0,by decide,rfl⟩
   rw [ek];walk_at"s";refine ⟨Qo0 (n:=k) (by omega),?_⟩;refine QN9 (fun i s h=>∃ (chs:List (List Nat × Int)) (e:List D),chs.length=i/\Ints e/\s=[some (.r 0),some (.d (.lst (cs.map .str))),some (.d (.int (m:Int))),some (.r 1),none,none]/\h=[.dl e,.dl (chs.map chD)]) ⟨[],d1,rfl,i1,rfl,rfl⟩ ?_ ?_
   . rintro i s h hi ⟨chs,e,lc,ie,es,eh⟩;rw [es,eh];walk_at"s";rw [Xq5];refine V2 rfl ie (by omega) fun q d2 i2 q0 q1=>?_
     obtain ⟨c,hcm,ec⟩:∃ c∈cs,atD (cs.map D.str) q=some (.str c):=by
       obtain ⟨k,rfl⟩:∃ k:Nat,q=k:=⟨q.toNat,by omega⟩;exact ⟨cs[k]'(by omega),List.getElem_mem _,by rw [Zl.at_nat,Xq7,Xq6 (by omega)]; rfl⟩
     walk_at"s";rw [ec];walk_at"s";refine V2 rfl i2 (by decide) fun y d3 i3 y0 y1=>?_;walk_at"s";refine QB8 (fun s h=>∃ (w:List Nat) (e:List D),Ints e/\s=[some (.r 0),some (.d (.lst (cs.map .str))),some (.d (.int (m:Int))),some (.r 1),some (.d (.int (i:Int))),some (.d (.str w))]/\h=[.dl e,.dl (chs.map chD)]) ?_ ?_
     . by_cases hy:y=4
       . rw [if_pos hy];walk_at"s";refine QL1 rfl hc h0 i3 fun w d4 hw i4=>?_;walk_at"s";exact ⟨w,d4,i4,rfl,rfl⟩
       . rw [if_neg hy];walk_at"s";exact ⟨c,d3,i3,rfl,rfl⟩
     . rintro s h ⟨w,d4,i4,es,eh⟩;rw [es,eh];walk_at"s";refine Xa3 rfl i4 (by omega) fun x d5 i5=>?_;walk_at"s";refine ⟨by rw [Xq5]; omega,?_⟩;walk_at"z";refine ⟨chs++[(w,x)],d5,by simp; omega,i5,?_⟩
       first | (rw [List.map_append]; rfl) | (refine ⟨rfl,?_⟩; rw [List.map_append]; rfl)
   . rintro s h ⟨chs,e,lc,ie,es,eh⟩;rw [es,eh];walk_at"z";refine ⟨chs,e,by omega,ie,?_⟩
     first | rfl | exact ⟨rfl,rfl⟩
 obtain ⟨z,h,e,chs,d',h1,h2,rfl,rfl⟩:=Qu8 w;exact ⟨chs,d',h1,h2,e⟩
end
section
theorem P1 {gd:ZH->Prop} {t:DG} {d:DS} {s:ZS} {h:ZH} {K:KS} (q:K.nx s h):(V8 gd t d [] s h).wp K :=
 forW (fun _ s' h'=>s'=s/\h'=h) ⟨rfl,rfl⟩ (fun i z s' h' hz=>by cases hz) fun s' h' e=>by rw [e.1,e.2]; exact q
theorem Y4 {gd:ZH->Prop} {t:DG} {d:DS} {z:Z} {zs:List Z} {s:ZS} {h:ZH} {K:KS}
   (w:(t z s h).wp ⟨fun s1 h1=>(d s1 h1).wp (K.turn gd fun s2 h2=>(V8 gd t d zs s2 h2).wp K),K.rt,K.bk,K.ct,K.ex⟩):(V8 gd t d (z::zs) s h).wp K:=by
 with_unfolding_all
   unfold V8;cases ht:t z s h with
   | nx s1 h1 =>
     rw [ht] at w;have w:(d s1 h1).wp (K.turn gd fun s2 h2=>(V8 gd t d zs s2 h2).wp K):=w;dsimp only;cases hd1:d s1 h1 with
     | nx s2 h2 =>
       rw [hd1] at w;have w:gd h2/\(V8 gd t d zs s2 h2).wp K:=w;dsimp only;rw [if_pos w.1];exact w.2
     | ct s2 h2 =>
       rw [hd1] at w;have w:gd h2/\(V8 gd t d zs s2 h2).wp K:=w;dsimp only;rw [if_pos w.1];exact w.2
     | bk s2 h2=>rw [hd1] at w; exact w
     | rt z h2=>rw [hd1] at w; exact w
     | exc x s2 h2=>rw [hd1] at w; exact w
     | bad=>rw [hd1] at w; exact w
   | rt z h2=>rw [ht] at w; exact w
   | bk s2 h2=>rw [ht] at w; exact w
   | ct s2 h2=>rw [ht] at w; exact w
   | exc x s2 h2=>rw [ht] at w; exact w
   | bad=>rw [ht] at w; exact w
theorem O3 {c:Nat} {o1 o2 o3:ZO} {fs:List (Nat × Z)} {t:ZH}:Qa4 (.r 3) (o1::o2::o3 :: .ins c fs::t)=some c:=rfl
theorem QQ7 {cs:List (List Nat)} {n:Int} {vs st:List Int} (hl:cs.length<=3) (hs:st.length=cs.length) (hv:∀ v∈st,0<=v/\v<n):M_Cells_contents_set [.r 0,.d (.tup (st.map .int))] [cR 1 cs n,.dl (vs.map .int)] = .ok (.d .non) [cR 2 cs n,.dl (vs.map .int),.dl (st.map .int)]:=by
 refine K5 ?_;unfold M_Cells_contents_set O1;walk_at"s";rw [Qk1,show (some X2).bind mtSelfCells_checked=some M_Cells_checked from rfl];walk_at"s";refine U4 (zs':=[.r 0,.d _]) (h0:=[cR 1 cs n,.dl (vs.map .int)]) [0,1] rfl rfl rfl rfl ?_;rw [QL4 (.inl rfl) hl hs hv,wp_ok];rw [show Q9 [0,1] [cR 1 cs n,.dl (vs.map .int)] [cR 1 cs n,.dl (vs.map .int),.dl (st.map .int)]=[cR 1 cs n,.dl (vs.map .int),.dl (st.map .int)] from rfl,show unZ [0,1] [cR 1 cs n,.dl (vs.map .int)].length (.r 2) = .r 2 from rfl];walk_at"s";rw [show ∀ ys,gcS 2 (OutS.nx [none,none] [ZO.ins X2 [(11,Z.d (D.tupN (List.map D.str cs))),(12,Z.d (D.int n)),(13,Z.r 2)],ZO.dl (List.map D.int vs),ZO.dl ys]) = .nx [none,none] [cR 2 cs n,ZO.dl (List.map D.int vs),ZO.dl ys] from fun _=>rfl];walk_at"z"
 first | done | rfl | exact ⟨rfl,rfl⟩
theorem Qs9 {cs:List (List Nat)} {n:Int} {vs st:List Int} (hl:cs.length<=3) (hs:st.length=cs.length) (hv:∀ v∈st,0<=v/\v<n):M_Cells_reset [.r 0,.d (.tup (st.map .int))] [cR 1 cs n,.dl (vs.map .int)] = .ok (.d .non) [cR 2 cs n,.dl (vs.map .int),.dl (st.map .int)]:=by
 refine K5 ?_;unfold M_Cells_reset Qb1;walk_at"s";rw [Qk1,show (some X2).bind mtS_contents=some M_Cells_contents_set from rfl];walk_at"s";refine U4 (zs':=[.r 0,.d _]) (h0:=[cR 1 cs n,.dl (vs.map .int)]) [0,1] rfl rfl rfl rfl ?_;rw [QQ7 hl hs hv,wp_ok];rw [show Q9 [0,1] [cR 1 cs n,.dl (vs.map .int)] [cR 2 cs n,.dl (vs.map .int),.dl (st.map .int)]=[cR 2 cs n,.dl (vs.map .int),.dl (st.map .int)] from rfl];walk_at"s";rw [show ∀ ys,gcS 2 (OutS.nx [none,none] [cR 2 cs n,ZO.dl (List.map D.int vs),ZO.dl ys]) = .nx [none,none] [cR 2 cs n,ZO.dl (List.map D.int vs),ZO.dl ys] from fun _=>rfl];walk_at"z"
 first | done | rfl | exact ⟨rfl,rfl⟩
theorem Xa6 {chs:List (List Nat × Int)}:plB (.lst (chs.map chD))=true/\dep (.lst (chs.map chD))<=64:=by
 have key:∀ chs:List (List Nat × Int),Qk4 (chs.map chD)=true/\Qr4 (chs.map chD)<=1:=by
   intro chs
   induction chs with
   | nil=>exact ⟨rfl,by decide⟩
   | cons p r ih =>
     refine ⟨by show (plB (chD p) && Qk4 (r.map chD))=true; rw [ih.1]; rfl,?_⟩;show max (dep (chD p)) (Qr4 (r.map chD))<=1
     have:dep (chD p)<=1:=by
       show max 0 (max 0 0)+1<=1
       decide
     omega
 obtain ⟨a,b⟩:=key chs;exact ⟨a,by show Qr4 (chs.map chD)+1<=64; omega⟩
theorem Qd1 {chs:List (List Nat × Int)}:peq (.lst (chs.map chD)) (.lst (chs.map chD))=some true:=by
 obtain ⟨a,b⟩:=Xa6 (chs:=chs);rw [Qr6 a a b b];simp
theorem QQ8 {vs:List Int}:Qk4 (vs.map .int)=true/\Qr4 (vs.map .int)<=0:=by
 induction vs with
 | nil=>exact ⟨rfl,by decide⟩
 | cons v r ih=>exact ⟨by show (true && Qk4 (r.map .int))=true; rw [ih.1]; rfl,by show max 0 (Qr4 (r.map .int))<=0; omega⟩
theorem Xa7 {vs:List Int}:peq (.tup [.str STA,.tup (vs.map .int)]) (.tup [.str STA,.tup (vs.map .int)])=some true:=by
 obtain ⟨a,b⟩:=QQ8 (vs:=vs)
 have p:plB (.tup [.str STA,.tup (vs.map .int)])=true:=by
   show (true && (Qk4 (vs.map .int) && true))=true;rw [a]; rfl
 have q:dep (.tup [.str STA,.tup (vs.map .int)])<=64:=by
   show max 0 (max (Qr4 (vs.map .int)+1) 0)+1<=64;omega
 rw [Qr6 p p q q];simp
theorem peq_un {c:List Nat}:peq (.tup [.str UNK,.str c]) (.tup [.str UNK,.str c])=some true:=by
 rw [Qr6 rfl rfl (by show max 0 (max 0 0)+1<=64; decide) (by show max 0 (max 0 0)+1<=64; decide)];simp
theorem peq_rn {c:List Nat} {v:Int}:peq (.tup [.str RNG,.str c,.int v]) (.tup [.str RNG,.str c,.int v])=some true:=by
 rw [Qr6 rfl rfl (by show max 0 (max 0 (max 0 0))+1<=64; decide) (by show max 0 (max 0 (max 0 0))+1<=64; decide)];simp
def IF2:DS:=dIf (dAnd (V9 (E5 false) (Y1 opIx (Q7 11) (dC (.int 0))) (dC (.str [115,116,97,116,101]))) (Qt0 (Qf0 (X7 M_law_same (Q4 (Y1 opIx (Q7 13) (dC (.int 1))) (Q4 (Y1 opIx (Q7 11) (dC (.int 1))) (dNil))))))) (L0 (dC (.bl false))) (dSkip)
def QB9:DS:=O4 [9,10,11,12,13,14,15] (U9 (K7 (X7 M_law_changes (Q4 (Q7 1) (Q4 (Q7 2) (Q4 (Q7 3) (dNil))))) (Z8 10)) (U9 (K7 (X7 M_law_due (Q4 (Q7 2) (Q4 (Q7 3) (Q4 (Y1 opIx (Q7 5) (Y1 H7 (Q7 9) (dC (.int 2)))) (Q4 (Q7 10) (dNil)))))) (Z8 11)) (U9 (K7 (Y2 (I8 false) (Q4 (Q7 10) (dNil))) (Z8 12)) (U9 (K7 (X7 M_law_peeked (Q4 (Y1 opIx (Q7 4) (Y1 H7 (Q7 9) (dC (.int 2)))) (Q4 (Q7 12) (dNil)))) (Z8 13)) (U9 (dIf (dOr (V9 (E5 true) (Q7 12) (Q7 10)) (dOr (V9 (E5 true) (Y2 opLen (Q4 (Q7 13) (dNil))) (Y2 opLen (Q4 (Q7 11) (dNil)))) (V9 (E5 true) (Y1 opIx (Q7 13) (dC (.int 0))) (Y1 opIx (Q7 11) (dC (.int 0)))))) (L0 (dC (.bl false))) (dSkip)) (U9 (IF2) (U9 (dIf (V9 (E5 true) (Q7 13) (Q7 11)) (L0 (dC (.bl false))) (dSkip)) (U9 (dIf (V9 (QD1 false) (S7 mtCells_trial (Y1 opIx (Q7 4) (Y1 H7 (Q7 9) (dC (.int 2)))) dNil) (dC .non)) (L0 (dC (.bl false))) (dSkip)) (U9 (Qk2 (K0 (Q4 (dC (.int 2)) (dNil))) (Z8 14) (O4 [14] (dIf (Qt0 (Qf0 (X7 M_law_same (Q4 (Qs1 mtP_contents (Y1 opIx (Q7 4) (Q7 14))) (Q4 (Y2 opTuple (Q4 (Y1 opIx (Q7 5) (Q7 14)) (dNil))) (dNil)))))) (L0 (dC (.bl false))) (dSkip)))) (U9 (K7 (X7 M_law_draw (Q4 (Q7 1) (Q4 (Y2 opLen (Q4 (Q7 2) (dNil))) (dNil)))) (Z8 15)) (U9 (K7 (X7 M_law_draw (Q4 (Q7 1) (Q4 (Q7 3) (dNil)))) (QS4 (Y1 opIx (Q7 5) (Y1 H7 (Q7 9) (dC (.int 2)))) (Q7 15))) (U9 (D4 (S7 mtCells_change (Y1 opIx (Q7 4) (Y1 H7 (Q7 9) (dC (.int 2)))) (Q4 (Y1 opIx (Q7 2) (Q7 15)) (Q4 (Y1 opIx (Y1 opIx (Q7 5) (Y1 H7 (Q7 9) (dC (.int 2)))) (Q7 15)) (dNil))))) (dIf (Qt0 (Qf0 (X7 M_law_same (Q4 (Qs1 mtP_contents (Y1 opIx (Q7 4) (Y1 H7 (Q7 9) (dC (.int 2))))) (Q4 (Y2 opTuple (Q4 (Y1 opIx (Q7 5) (Y1 H7 (Q7 9) (dC (.int 2)))) (dNil))) (dNil)))))) (L0 (dC (.bl false))) (dSkip))))))))))))))
theorem D2 {cs:List (List Nat)} {n:Int} {vs:List Int} {chs:List (List Nat × Int)} (hl:vs.length<=3):∃ a r,Qt1 cs n vs chs = .tup (.str a::r)/\peq (.tup (.str a::r)) (.tup (.str a::r))=some true/\(a=STA -> ∃ us:List Int,us.length<=3/\r=[.tup (us.map .int)]):=by
 rcases Qp4 (cs:=cs) (n:=n) (chs:=chs) (vs:=vs) with ⟨_,e⟩ | ⟨c,_,e⟩ | ⟨c,v,_,e⟩
 . exact ⟨STA,_,e,Xa7,fun _=>⟨_,by rw [Qw0]; exact hl,rfl⟩⟩
 . exact ⟨UNK,_,e,peq_un,fun z=>absurd z (by decide)⟩
 . exact ⟨RNG,_,e,peq_rn,fun z=>absurd z (by decide)⟩
theorem Xa8 {y0:D} {cs:List (List Nat)} {m:Nat} {e:List D} {va vb:List Int} {j2 j4:List D} (hc:H5 cs) (hne:cs≠[]) (l3:cs.length<=3) (hm3:1<=m/\m<=3) (ie:Ints e) (lva:va.length=cs.length) (lvb:vb.length=cs.length) :
   (QB9 [some (.d y0),some (.r 0),some (.d (.lst (cs.map .str))),some (.d (.int (m:Int))),some (.r 5),some (.r 6),none,none,none,some (.d (.int 0)),none,none,none,none,none,none] [.dl e,cR 7 cs (m:Int),.dl j2,cR 9 cs (m:Int),.dl j4,.zl [.r 1,.r 3],.zl [.r 8,.r 10],.dl (va.map .int),.dl (va.map .int),.dl (vb.map .int),.dl (vb.map .int)]).wp ⟨fun s h=>∃ (e2 u:List D) (w:List Int),Ints e2/\w.length=cs.length/\s=[some (.d y0),some (.r 0),some (.d (.lst (cs.map .str))),some (.d (.int (m:Int))),some (.r 5),some (.r 6),none,none,none,none,none,none,none,none,none,none]/\h=[.dl e2,cR 11 cs (m:Int),.dl j2,cR 9 cs (m:Int),.dl j4,.zl [.r 1,.r 3],.zl [.r 8,.r 10],.dl u,.dl (w.map .int),.dl (vb.map .int),.dl (vb.map .int),.dl (w.map .int)],fun _ _=>False,fun _ _=>False,fun _ _=>False,fun _ _ _=>False⟩:=by
 have l0:0<cs.length:=List.length_pos_iff.mpr hne;unfold QB9;walk_at"s";obtain ⟨chs,d7,l7,i7,e7⟩:=B2 (m:=m) hc hne l3 hm3 ie;refine Qf3 (zs':=[.r 0,.d _,.d _]) (h0:=[.dl _]) [0] rfl rfl rfl rfl e7 rfl rfl ?_;walk_at"s";rw [show atZ [Z.r 8,Z.r 10] (0 % 2)=some (.r 8) from rfl];walk_at"s";refine Qf3 (zs':=[.d _,.d _,.r 0,.d _]) (h0:=[.dl _]) [8] rfl rfl rfl rfl (Qd0 lva l3) rfl rfl ?_;walk_at"s";rw [show atZ [Z.r 1,Z.r 3] (0 % 2)=some (.r 1) from rfl];walk_at"s";refine U4 (zs':=[.r 0,.d _]) (h0:=[cR 1 cs m,.dl (va.map .int)]) [1,7] rfl rfl rfl rfl ?_;rw [O6 lva,wp_ok];obtain ⟨a,r,eo,po,ha⟩:=D2 (cs:=cs) (n:=(m:Int)) (vs:=va) (chs:=chs) (by omega);rw [eo];generalize (T3 cs (m:Int) va chs).2=us;rw [show Q9 [1,7] [.dl d7,cR 7 cs (m:Int),.dl j2,cR 9 cs (m:Int),.dl j4,.zl [.r 1,.r 3],.zl [.r 8,.r 10],.dl (va.map .int),.dl (va.map .int),.dl (vb.map .int),.dl (vb.map .int)] [cR 2 cs (m:Int),.dl (us.map .int),.dl (va.map .int)]=[.dl d7,cR 11 cs (m:Int),.dl j2,cR 9 cs (m:Int),.dl j4,.zl [.r 1,.r 3],.zl [.r 8,.r 10],.dl (us.map .int),.dl (va.map .int),.dl (vb.map .int),.dl (vb.map .int),.dl (va.map .int)] from rfl,show ∀ n d,unZ [1,7] n (.d d) = .d d from fun _ _=>rfl];walk_at"s";rw [Qd1];walk_at"s";refine QB8 (fun s h=>s=[some (.d y0),some (.r 0),some (.d (.lst (cs.map .str))),some (.d (.int (m:Int))),some (.r 5),some (.r 6),none,none,none,some (.d (.int 0)),some (.d (.lst (chs.map chD))),some (.d (.tup (.str a::r))),some (.d (.lst (chs.map chD))),some (.d (.tup (.str a::r))),none,none]/\h=[.dl d7,cR 11 cs (m:Int),.dl j2,cR 9 cs (m:Int),.dl j4,.zl [.r 1,.r 3],.zl [.r 8,.r 10],.dl (us.map .int),.dl (va.map .int),.dl (vb.map .int),.dl (vb.map .int),.dl (va.map .int)]) ?_ ?_
 . unfold IF2;walk_at"s";rw [show [115,116,97,116,101]=STA from rfl]
   by_cases ea:a=STA
   . obtain ⟨ws,lw,rfl⟩:=ha ea;rw [if_pos ea];walk_at"s";refine X9 (xs:=[_,_]) (V0 (a:=ws) (by omega)) ?_;walk_at"s"
     first | done | exact ⟨rfl,rfl⟩
   . rw [if_neg ea];walk_at"s"
     first | done | exact ⟨rfl,rfl⟩
 rintro s h ⟨rfl,rfl⟩;walk_at"s";rw [po];walk_at"s";rw [show atZ [Z.r 1,Z.r 3] (0 % 2)=some (.r 1) from rfl];walk_at"s";rw [O2,show (some X2).bind mtCells_trial=some M_Cells_trial from rfl];walk_at"s";refine U4 (zs':=[.r 0]) (h0:=[cR 1 cs (m:Int),.dl (va.map .int)]) [1,11] rfl rfl rfl rfl ?_;rw [R8,wp_ok];rw [show Q9 [1,11] [.dl d7,cR 11 cs (m:Int),.dl j2,cR 9 cs (m:Int),.dl j4,.zl [.r 1,.r 3],.zl [.r 8,.r 10],.dl (us.map .int),.dl (va.map .int),.dl (vb.map .int),.dl (vb.map .int),.dl (va.map .int)] [cR 1 cs (m:Int),.dl (va.map .int),.ins Q5 [(f_cells,.r 0),(f_saved,.d (.lst []))]]=[.dl d7,cR 11 cs (m:Int),.dl j2,cR 9 cs (m:Int),.dl j4,.zl [.r 1,.r 3],.zl [.r 8,.r 10],.dl (us.map .int),.dl (va.map .int),.dl (vb.map .int),.dl (vb.map .int),.dl (va.map .int),.ins Q5 [(f_cells,.r 1),(f_saved,.d (.lst []))]] from rfl,show unZ [1,11] [.dl d7,cR 11 cs (m:Int),.dl j2,cR 9 cs (m:Int),.dl j4,.zl [.r 1,.r 3],.zl [.r 8,.r 10],.dl (us.map .int),.dl (va.map .int),.dl (vb.map .int),.dl (vb.map .int),.dl (va.map .int)].length (.r 2) = .r 12 from rfl];walk_at"s";rw [show ∀ h,QD1 false (.r 12) (.d .non) h = .ok (.d (.bl false)) h from fun _=>rfl];walk_at"s";refine ⟨R9 (by decide) (by decide),?_⟩;rw [show H9 0 2=[.d (.int 0),.d (.int 1)] from rfl];refine Y4 ?_;walk_at"s";rw [show atZ [Z.r 1,Z.r 3] 0=some (.r 1) from rfl];walk_at"s";rw [O2,show (some X2).bind mtP_contents=some M_Cells_contents_get from rfl];walk_at"s";refine U4 (zs':=[.r 0]) (h0:=[cR 1 cs (m:Int),.dl (va.map .int)]) [1,11] rfl rfl rfl rfl ?_;rw [Z0,wp_ok];rw [show Q9 [1,11] [.dl d7,cR 11 cs (m:Int),.dl j2,cR 9 cs (m:Int),.dl j4,.zl [.r 1,.r 3],.zl [.r 8,.r 10],.dl (us.map .int),.dl (va.map .int),.dl (vb.map .int),.dl (vb.map .int),.dl (va.map .int),.ins Q5 [(f_cells,.r 1),(f_saved,.d (.lst []))]] [cR 1 cs (m:Int),.dl (va.map .int)]=[.dl d7,cR 11 cs (m:Int),.dl j2,cR 9 cs (m:Int),.dl j4,.zl [.r 1,.r 3],.zl [.r 8,.r 10],.dl (us.map .int),.dl (va.map .int),.dl (vb.map .int),.dl (vb.map .int),.dl (va.map .int),.ins Q5 [(f_cells,.r 1),(f_saved,.d (.lst []))]] from rfl,show ∀ n d,unZ [1,11] n (.d d) = .d d from fun _ _=>rfl];walk_at"s";rw [show atZ [Z.r 8,Z.r 10] 0=some (.r 8) from rfl];walk_at"s";refine X9 (xs:=[_,_]) (V0 (a:=va) (by omega)) ?_;walk_at"s";rw [show gcS 13 (OutS.nx [some (.d y0),some (.r 0),some (.d (.lst (cs.map .str))),some (.d (.int (m:Int))),some (.r 5),some (.r 6),none,none,none,some (.d (.int 0)),some (.d (.lst (chs.map chD))),some (.d (.tup (.str a::r))),some (.d (.lst (chs.map chD))),some (.d (.tup (.str a::r))),none,none] [.dl d7,cR 11 cs (m:Int),.dl j2,cR 9 cs (m:Int),.dl j4,.zl [.r 1,.r 3],.zl [.r 8,.r 10],.dl (us.map .int),.dl (va.map .int),.dl (vb.map .int),.dl (vb.map .int),.dl (va.map .int),.ins Q5 [(f_cells,.r 1),(f_saved,.d (.lst []))]]) = .nx [some (.d y0),some (.r 0),some (.d (.lst (cs.map .str))),some (.d (.int (m:Int))),some (.r 5),some (.r 6),none,none,none,some (.d (.int 0)),some (.d (.lst (chs.map chD))),some (.d (.tup (.str a::r))),some (.d (.lst (chs.map chD))),some (.d (.tup (.str a::r))),none,none] [.dl d7,cR 11 cs (m:Int),.dl j2,cR 9 cs (m:Int),.dl j4,.zl [.r 1,.r 3],.zl [.r 8,.r 10],.dl (us.map .int),.dl (va.map .int),.dl (vb.map .int),.dl (vb.map .int),.dl (va.map .int),.ins Q5 [(f_cells,.r 1),(f_saved,.d (.lst []))]] from rfl];walk_at"s";refine Y4 ?_;walk_at"s";rw [show atZ [Z.r 1,Z.r 3] 1=some (.r 3) from rfl];walk_at"s";rw [O3,show (some X2).bind mtP_contents=some M_Cells_contents_get from rfl];walk_at"s";refine U4 (zs':=[.r 0]) (h0:=[cR 1 cs (m:Int),.dl (vb.map .int)]) [3,9] rfl rfl rfl rfl ?_;rw [Z0,wp_ok];rw [show Q9 [3,9] [.dl d7,cR 11 cs (m:Int),.dl j2,cR 9 cs (m:Int),.dl j4,.zl [.r 1,.r 3],.zl [.r 8,.r 10],.dl (us.map .int),.dl (va.map .int),.dl (vb.map .int),.dl (vb.map .int),.dl (va.map .int),.ins Q5 [(f_cells,.r 1),(f_saved,.d (.lst []))]] [cR 1 cs (m:Int),.dl (vb.map .int)]=[.dl d7,cR 11 cs (m:Int),.dl j2,cR 9 cs (m:Int),.dl j4,.zl [.r 1,.r 3],.zl [.r 8,.r 10],.dl (us.map .int),.dl (va.map .int),.dl (vb.map .int),.dl (vb.map .int),.dl (va.map .int),.ins Q5 [(f_cells,.r 1),(f_saved,.d (.lst []))]] from rfl,show ∀ n d,unZ [3,9] n (.d d) = .d d from fun _ _=>rfl];walk_at"s";rw [show atZ [Z.r 8,Z.r 10] 1=some (.r 10) from rfl];walk_at"s";refine X9 (xs:=[_,_]) (V0 (a:=vb) (by omega)) ?_;walk_at"s";rw [show gcS 13 (OutS.nx [some (.d y0),some (.r 0),some (.d (.lst (cs.map .str))),some (.d (.int (m:Int))),some (.r 5),some (.r 6),none,none,none,some (.d (.int 0)),some (.d (.lst (chs.map chD))),some (.d (.tup (.str a::r))),some (.d (.lst (chs.map chD))),some (.d (.tup (.str a::r))),none,none] [.dl d7,cR 11 cs (m:Int),.dl j2,cR 9 cs (m:Int),.dl j4,.zl [.r 1,.r 3],.zl [.r 8,.r 10],.dl (us.map .int),.dl (va.map .int),.dl (vb.map .int),.dl (vb.map .int),.dl (va.map .int),.ins Q5 [(f_cells,.r 1),(f_saved,.d (.lst []))]]) = .nx [some (.d y0),some (.r 0),some (.d (.lst (cs.map .str))),some (.d (.int (m:Int))),some (.r 5),some (.r 6),none,none,none,some (.d (.int 0)),some (.d (.lst (chs.map chD))),some (.d (.tup (.str a::r))),some (.d (.lst (chs.map chD))),some (.d (.tup (.str a::r))),none,none] [.dl d7,cR 11 cs (m:Int),.dl j2,cR 9 cs (m:Int),.dl j4,.zl [.r 1,.r 3],.zl [.r 8,.r 10],.dl (us.map .int),.dl (va.map .int),.dl (vb.map .int),.dl (vb.map .int),.dl (va.map .int),.ins Q5 [(f_cells,.r 1),(f_saved,.d (.lst []))]] from rfl];walk_at"s";refine P1 ?_;walk_at"s";rw [Xq5];refine V2 rfl i7 (by omega) fun q d8 i8 q0 q1=>?_;obtain ⟨k,rfl⟩:∃ k:Nat,q=k:=⟨q.toNat,by omega⟩;have hk:k<cs.length:=by omega
 walk_at"s";refine V2 rfl i8 (by omega) fun x d9 i9 x0 x1=>?_;walk_at"s";rw [show atZ [Z.r 8,Z.r 10] (0 % 2)=some (.r 8) from rfl];walk_at"s";rw [F7 (by omega) (by rw [Xq5]; omega),Int.toNat_natCast,optP_some,<- List.map_set];have nv:Qh1 cs va cs[k] x=va.set k x:=by unfold Qh1; rw [hc.1.idxOf_getElem k hk]
 have cg:=D0 (cs:=cs) (n:=(m:Int)) (vs:=va) (c:=cs[k]) (v:=x) lva;rw [nv] at cg;have lw:(va.set k x).length=cs.length:=by rw [List.length_set]; exact lva
 have gw:(va.set k x)[k]? = some x:=by rw [Xr3 (by omega)]
 generalize va.set k x=w at *;walk_at"s";rw [show atZ [Z.r 1,Z.r 3] (0 % 2)=some (.r 1) from rfl];walk_at"s";rw [O2,show (some X2).bind mtCells_change=some M_Cells_change from rfl];walk_at"s";rw [show atD (cs.map D.str) (k:Int)=some (.str cs[k]) by rw [Zl.at_nat,Xq7,Xq6 hk]; rfl];walk_at"s";rw [show atZ [Z.r 8,Z.r 10] (0 % 2)=some (.r 8) from rfl];walk_at"s";rw [show atD (w.map D.int) (k:Int)=some (.int x) by rw [Zl.at_nat,Xq7,gw]; rfl];walk_at"s";refine U4 (zs':=[.r 0,.d _,.d _]) (h0:=[cR 1 cs (m:Int),.dl (va.map .int)]) [1,11] rfl rfl rfl rfl ?_;refine Out.wp_mono cg (fun z os hz=>?_) (fun x os hz=>?_)
 rotate_left
 . exact absurd hz.1 (by rw [Qw1 (List.getElem_mem _) ⟨x0,x1⟩]; simp)
 obtain ⟨_,rfl,rfl⟩:=hz;rw [show Q9 [1,11] [.dl d9,cR 11 cs (m:Int),.dl j2,cR 9 cs (m:Int),.dl j4,.zl [.r 1,.r 3],.zl [.r 8,.r 10],.dl (us.map .int),.dl (w.map .int),.dl (vb.map .int),.dl (vb.map .int),.dl (va.map .int),.ins Q5 [(f_cells,.r 1),(f_saved,.d (.lst []))]] [cR 1 cs (m:Int),.dl (w.map .int)]=[.dl d9,cR 11 cs (m:Int),.dl j2,cR 9 cs (m:Int),.dl j4,.zl [.r 1,.r 3],.zl [.r 8,.r 10],.dl (us.map .int),.dl (w.map .int),.dl (vb.map .int),.dl (vb.map .int),.dl (w.map .int),.ins Q5 [(f_cells,.r 1),(f_saved,.d (.lst []))]] from rfl];walk_at"s";rw [show atZ [Z.r 1,Z.r 3] (0 % 2)=some (.r 1) from rfl];walk_at"s";rw [O2,show (some X2).bind mtP_contents=some M_Cells_contents_get from rfl];walk_at"s";refine U4 (zs':=[.r 0]) (h0:=[cR 1 cs (m:Int),.dl (w.map .int)]) [1,11] rfl rfl rfl rfl ?_;rw [Z0,wp_ok];rw [show Q9 [1,11] [.dl d9,cR 11 cs (m:Int),.dl j2,cR 9 cs (m:Int),.dl j4,.zl [.r 1,.r 3],.zl [.r 8,.r 10],.dl (us.map .int),.dl (w.map .int),.dl (vb.map .int),.dl (vb.map .int),.dl (w.map .int),.ins Q5 [(f_cells,.r 1),(f_saved,.d (.lst []))]] [cR 1 cs (m:Int),.dl (w.map .int)]=[.dl d9,cR 11 cs (m:Int),.dl j2,cR 9 cs (m:Int),.dl j4,.zl [.r 1,.r 3],.zl [.r 8,.r 10],.dl (us.map .int),.dl (w.map .int),.dl (vb.map .int),.dl (vb.map .int),.dl (w.map .int),.ins Q5 [(f_cells,.r 1),(f_saved,.d (.lst []))]] from rfl,show ∀ n d,unZ [1,11] n (.d d) = .d d from fun _ _=>rfl];walk_at"s";rw [show atZ [Z.r 8,Z.r 10] (0 % 2)=some (.r 8) from rfl];walk_at"s";refine X9 (xs:=[_,_]) (V0 (a:=w) (by omega)) ?_;walk_at"s";rw [show gcS 11 (OutS.nx [some (.d y0),some (.r 0),some (.d (.lst (cs.map .str))),some (.d (.int (m:Int))),some (.r 5),some (.r 6),none,none,none,none,none,none,none,none,none,none] [.dl d9,cR 11 cs (m:Int),.dl j2,cR 9 cs (m:Int),.dl j4,.zl [.r 1,.r 3],.zl [.r 8,.r 10],.dl (us.map .int),.dl (w.map .int),.dl (vb.map .int),.dl (vb.map .int),.dl (w.map .int),.ins Q5 [(f_cells,.r 1),(f_saved,.d (.lst []))]]) = .nx [some (.d y0),some (.r 0),some (.d (.lst (cs.map .str))),some (.d (.int (m:Int))),some (.r 5),some (.r 6),none,none,none,none,none,none,none,none,none,none] [.dl d9,cR 11 cs (m:Int),.dl j2,cR 9 cs (m:Int),.dl j4,.zl [.r 1,.r 3],.zl [.r 8,.r 10],.dl (us.map .int),.dl (w.map .int),.dl (vb.map .int),.dl (vb.map .int),.dl (w.map .int)] from rfl];walk_at"s";exact ⟨d9,us.map .int,w,i9,lw,rfl⟩
theorem Xa9 {y0:D} {cs:List (List Nat)} {m:Nat} {e:List D} {va vb:List Int} {j2 j4 j7:List D} (hc:H5 cs) (hne:cs≠[]) (l3:cs.length<=3) (hm3:1<=m/\m<=3) (ie:Ints e) (lva:va.length=cs.length) (lvb:vb.length=cs.length) :
   (QB9 [some (.d y0),some (.r 0),some (.d (.lst (cs.map .str))),some (.d (.int (m:Int))),some (.r 5),some (.r 6),none,none,none,some (.d (.int 1)),none,none,none,none,none,none] [.dl e,cR 11 cs (m:Int),.dl j2,cR 9 cs (m:Int),.dl j4,.zl [.r 1,.r 3],.zl [.r 8,.r 10],.dl j7,.dl (va.map .int),.dl (vb.map .int),.dl (vb.map .int),.dl (va.map .int)]).wp ⟨fun s h=>∃ (e2 u:List D) (w:List Int),Ints e2/\w.length=cs.length/\s=[some (.d y0),some (.r 0),some (.d (.lst (cs.map .str))),some (.d (.int (m:Int))),some (.r 5),some (.r 6),none,none,none,none,none,none,none,none,none,none]/\h=[.dl e2,cR 11 cs (m:Int),.dl j2,cR 12 cs (m:Int),.dl j4,.zl [.r 1,.r 3],.zl [.r 8,.r 10],.dl j7,.dl (va.map .int),.dl u,.dl (w.map .int),.dl (va.map .int),.dl (w.map .int)],fun _ _=>False,fun _ _=>False,fun _ _=>False,fun _ _ _=>False⟩:=by
 have l0:0<cs.length:=List.length_pos_iff.mpr hne;unfold QB9;walk_at"s";obtain ⟨chs,d7,l7,i7,e7⟩:=B2 (m:=m) hc hne l3 hm3 ie;refine Qf3 (zs':=[.r 0,.d _,.d _]) (h0:=[.dl _]) [0] rfl rfl rfl rfl e7 rfl rfl ?_;walk_at"s";rw [show atZ [Z.r 8,Z.r 10] (1 % 2)=some (.r 10) from rfl];walk_at"s";refine Qf3 (zs':=[.d _,.d _,.r 0,.d _]) (h0:=[.dl _]) [10] rfl rfl rfl rfl (Qd0 lvb l3) rfl rfl ?_;walk_at"s";rw [show atZ [Z.r 1,Z.r 3] (1 % 2)=some (.r 3) from rfl];walk_at"s";refine U4 (zs':=[.r 0,.d _]) (h0:=[cR 1 cs m,.dl (vb.map .int)]) [3,9] rfl rfl rfl rfl ?_;rw [O6 lvb,wp_ok];obtain ⟨a,r,eo,po,ha⟩:=D2 (cs:=cs) (n:=(m:Int)) (vs:=vb) (chs:=chs) (by omega);rw [eo];generalize (T3 cs (m:Int) vb chs).2=us;rw [show Q9 [3,9] [.dl d7,cR 11 cs (m:Int),.dl j2,cR 9 cs (m:Int),.dl j4,.zl [.r 1,.r 3],.zl [.r 8,.r 10],.dl j7,.dl (va.map .int),.dl (vb.map .int),.dl (vb.map .int),.dl (va.map .int)] [cR 2 cs (m:Int),.dl (us.map .int),.dl (vb.map .int)]=[.dl d7,cR 11 cs (m:Int),.dl j2,cR 12 cs (m:Int),.dl j4,.zl [.r 1,.r 3],.zl [.r 8,.r 10],.dl j7,.dl (va.map .int),.dl (us.map .int),.dl (vb.map .int),.dl (va.map .int),.dl (vb.map .int)] from rfl,show ∀ n d,unZ [3,9] n (.d d) = .d d from fun _ _=>rfl];walk_at"s";rw [Qd1];walk_at"s";refine QB8 (fun s h=>s=[some (.d y0),some (.r 0),some (.d (.lst (cs.map .str))),some (.d (.int (m:Int))),some (.r 5),some (.r 6),none,none,none,some (.d (.int 1)),some (.d (.lst (chs.map chD))),some (.d (.tup (.str a::r))),some (.d (.lst (chs.map chD))),some (.d (.tup (.str a::r))),none,none]/\h=[.dl d7,cR 11 cs (m:Int),.dl j2,cR 12 cs (m:Int),.dl j4,.zl [.r 1,.r 3],.zl [.r 8,.r 10],.dl j7,.dl (va.map .int),.dl (us.map .int),.dl (vb.map .int),.dl (va.map .int),.dl (vb.map .int)]) ?_ ?_
 . unfold IF2;walk_at"s";rw [show [115,116,97,116,101]=STA from rfl]
   by_cases ea:a=STA
   . obtain ⟨ws,lw,rfl⟩:=ha ea;rw [if_pos ea];walk_at"s";refine X9 (xs:=[_,_]) (V0 (a:=ws) (by omega)) ?_;walk_at"s"
     first | done | exact ⟨rfl,rfl⟩
   . rw [if_neg ea];walk_at"s"
     first | done | exact ⟨rfl,rfl⟩
 rintro s h ⟨rfl,rfl⟩;walk_at"s";rw [po];walk_at"s";rw [show atZ [Z.r 1,Z.r 3] (1 % 2)=some (.r 3) from rfl];walk_at"s";rw [O3,show (some X2).bind mtCells_trial=some M_Cells_trial from rfl];walk_at"s";refine U4 (zs':=[.r 0]) (h0:=[cR 1 cs (m:Int),.dl (vb.map .int)]) [3,12] rfl rfl rfl rfl ?_;rw [R8,wp_ok];rw [show Q9 [3,12] [.dl d7,cR 11 cs (m:Int),.dl j2,cR 12 cs (m:Int),.dl j4,.zl [.r 1,.r 3],.zl [.r 8,.r 10],.dl j7,.dl (va.map .int),.dl (us.map .int),.dl (vb.map .int),.dl (va.map .int),.dl (vb.map .int)] [cR 1 cs (m:Int),.dl (vb.map .int),.ins Q5 [(f_cells,.r 0),(f_saved,.d (.lst []))]]=[.dl d7,cR 11 cs (m:Int),.dl j2,cR 12 cs (m:Int),.dl j4,.zl [.r 1,.r 3],.zl [.r 8,.r 10],.dl j7,.dl (va.map .int),.dl (us.map .int),.dl (vb.map .int),.dl (va.map .int),.dl (vb.map .int),.ins Q5 [(f_cells,.r 3),(f_saved,.d (.lst []))]] from rfl,show unZ [3,12] [.dl d7,cR 11 cs (m:Int),.dl j2,cR 12 cs (m:Int),.dl j4,.zl [.r 1,.r 3],.zl [.r 8,.r 10],.dl j7,.dl (va.map .int),.dl (us.map .int),.dl (vb.map .int),.dl (va.map .int),.dl (vb.map .int)].length (.r 2) = .r 13 from rfl];walk_at"s";rw [show ∀ h,QD1 false (.r 13) (.d .non) h = .ok (.d (.bl false)) h from fun _=>rfl];walk_at"s";refine ⟨R9 (by decide) (by decide),?_⟩;rw [show H9 0 2=[.d (.int 0),.d (.int 1)] from rfl];refine Y4 ?_;walk_at"s";rw [show atZ [Z.r 1,Z.r 3] 0=some (.r 1) from rfl];walk_at"s";rw [O2,show (some X2).bind mtP_contents=some M_Cells_contents_get from rfl];walk_at"s";refine U4 (zs':=[.r 0]) (h0:=[cR 1 cs (m:Int),.dl (va.map .int)]) [1,11] rfl rfl rfl rfl ?_;rw [Z0,wp_ok];rw [show Q9 [1,11] [.dl d7,cR 11 cs (m:Int),.dl j2,cR 12 cs (m:Int),.dl j4,.zl [.r 1,.r 3],.zl [.r 8,.r 10],.dl j7,.dl (va.map .int),.dl (us.map .int),.dl (vb.map .int),.dl (va.map .int),.dl (vb.map .int),.ins Q5 [(f_cells,.r 3),(f_saved,.d (.lst []))]] [cR 1 cs (m:Int),.dl (va.map .int)]=[.dl d7,cR 11 cs (m:Int),.dl j2,cR 12 cs (m:Int),.dl j4,.zl [.r 1,.r 3],.zl [.r 8,.r 10],.dl j7,.dl (va.map .int),.dl (us.map .int),.dl (vb.map .int),.dl (va.map .int),.dl (vb.map .int),.ins Q5 [(f_cells,.r 3),(f_saved,.d (.lst []))]] from rfl,show ∀ n d,unZ [1,11] n (.d d) = .d d from fun _ _=>rfl];walk_at"s";rw [show atZ [Z.r 8,Z.r 10] 0=some (.r 8) from rfl];walk_at"s";refine X9 (xs:=[_,_]) (V0 (a:=va) (by omega)) ?_;walk_at"s";rw [show gcS 14 (OutS.nx [some (.d y0),some (.r 0),some (.d (.lst (cs.map .str))),some (.d (.int (m:Int))),some (.r 5),some (.r 6),none,none,none,some (.d (.int 1)),some (.d (.lst (chs.map chD))),some (.d (.tup (.str a::r))),some (.d (.lst (chs.map chD))),some (.d (.tup (.str a::r))),none,none] [.dl d7,cR 11 cs (m:Int),.dl j2,cR 12 cs (m:Int),.dl j4,.zl [.r 1,.r 3],.zl [.r 8,.r 10],.dl j7,.dl (va.map .int),.dl (us.map .int),.dl (vb.map .int),.dl (va.map .int),.dl (vb.map .int),.ins Q5 [(f_cells,.r 3),(f_saved,.d (.lst []))]]) = .nx [some (.d y0),some (.r 0),some (.d (.lst (cs.map .str))),some (.d (.int (m:Int))),some (.r 5),some (.r 6),none,none,none,some (.d (.int 1)),some (.d (.lst (chs.map chD))),some (.d (.tup (.str a::r))),some (.d (.lst (chs.map chD))),some (.d (.tup (.str a::r))),none,none] [.dl d7,cR 11 cs (m:Int),.dl j2,cR 12 cs (m:Int),.dl j4,.zl [.r 1,.r 3],.zl [.r 8,.r 10],.dl j7,.dl (va.map .int),.dl (us.map .int),.dl (vb.map .int),.dl (va.map .int),.dl (vb.map .int),.ins Q5 [(f_cells,.r 3),(f_saved,.d (.lst []))]] from rfl];walk_at"s";refine Y4 ?_;walk_at"s";rw [show atZ [Z.r 1,Z.r 3] 1=some (.r 3) from rfl];walk_at"s";rw [O3,show (some X2).bind mtP_contents=some M_Cells_contents_get from rfl];walk_at"s";refine U4 (zs':=[.r 0]) (h0:=[cR 1 cs (m:Int),.dl (vb.map .int)]) [3,12] rfl rfl rfl rfl ?_;rw [Z0,wp_ok];rw [show Q9 [3,12] [.dl d7,cR 11 cs (m:Int),.dl j2,cR 12 cs (m:Int),.dl j4,.zl [.r 1,.r 3],.zl [.r 8,.r 10],.dl j7,.dl (va.map .int),.dl (us.map .int),.dl (vb.map .int),.dl (va.map .int),.dl (vb.map .int),.ins Q5 [(f_cells,.r 3),(f_saved,.d (.lst []))]] [cR 1 cs (m:Int),.dl (vb.map .int)]=[.dl d7,cR 11 cs (m:Int),.dl j2,cR 12 cs (m:Int),.dl j4,.zl [.r 1,.r 3],.zl [.r 8,.r 10],.dl j7,.dl (va.map .int),.dl (us.map .int),.dl (vb.map .int),.dl (va.map .int),.dl (vb.map .int),.ins Q5 [(f_cells,.r 3),(f_saved,.d (.lst []))]] from rfl,show ∀ n d,unZ [3,12] n (.d d) = .d d from fun _ _=>rfl];walk_at"s";rw [show atZ [Z.r 8,Z.r 10] 1=some (.r 10) from rfl];walk_at"s";refine X9 (xs:=[_,_]) (V0 (a:=vb) (by omega)) ?_;walk_at"s";rw [show gcS 14 (OutS.nx [some (.d y0),some (.r 0),some (.d (.lst (cs.map .str))),some (.d (.int (m:Int))),some (.r 5),some (.r 6),none,none,none,some (.d (.int 1)),some (.d (.lst (chs.map chD))),some (.d (.tup (.str a::r))),some (.d (.lst (chs.map chD))),some (.d (.tup (.str a::r))),none,none] [.dl d7,cR 11 cs (m:Int),.dl j2,cR 12 cs (m:Int),.dl j4,.zl [.r 1,.r 3],.zl [.r 8,.r 10],.dl j7,.dl (va.map .int),.dl (us.map .int),.dl (vb.map .int),.dl (va.map .int),.dl (vb.map .int),.ins Q5 [(f_cells,.r 3),(f_saved,.d (.lst []))]]) = .nx [some (.d y0),some (.r 0),some (.d (.lst (cs.map .str))),some (.d (.int (m:Int))),some (.r 5),some (.r 6),none,none,none,some (.d (.int 1)),some (.d (.lst (chs.map chD))),some (.d (.tup (.str a::r))),some (.d (.lst (chs.map chD))),some (.d (.tup (.str a::r))),none,none] [.dl d7,cR 11 cs (m:Int),.dl j2,cR 12 cs (m:Int),.dl j4,.zl [.r 1,.r 3],.zl [.r 8,.r 10],.dl j7,.dl (va.map .int),.dl (us.map .int),.dl (vb.map .int),.dl (va.map .int),.dl (vb.map .int),.ins Q5 [(f_cells,.r 3),(f_saved,.d (.lst []))]] from rfl];walk_at"s";refine P1 ?_;walk_at"s";rw [Xq5];refine V2 rfl i7 (by omega) fun q d8 i8 q0 q1=>?_;obtain ⟨k,rfl⟩:∃ k:Nat,q=k:=⟨q.toNat,by omega⟩;have hk:k<cs.length:=by omega
 walk_at"s";refine V2 rfl i8 (by omega) fun x d9 i9 x0 x1=>?_;walk_at"s";rw [show atZ [Z.r 8,Z.r 10] (1 % 2)=some (.r 10) from rfl];walk_at"s";rw [F7 (by omega) (by rw [Xq5]; omega),Int.toNat_natCast,optP_some,<- List.map_set];have nv:Qh1 cs vb cs[k] x=vb.set k x:=by unfold Qh1; rw [hc.1.idxOf_getElem k hk]
 have cg:=D0 (cs:=cs) (n:=(m:Int)) (vs:=vb) (c:=cs[k]) (v:=x) lvb;rw [nv] at cg;have lw:(vb.set k x).length=cs.length:=by rw [List.length_set]; exact lvb
 have gw:(vb.set k x)[k]? = some x:=by rw [Xr3 (by omega)]
 generalize vb.set k x=w at *;walk_at"s";rw [show atZ [Z.r 1,Z.r 3] (1 % 2)=some (.r 3) from rfl];walk_at"s";rw [O3,show (some X2).bind mtCells_change=some M_Cells_change from rfl];walk_at"s";rw [show atD (cs.map D.str) (k:Int)=some (.str cs[k]) by rw [Zl.at_nat,Xq7,Xq6 hk]; rfl];walk_at"s";rw [show atZ [Z.r 8,Z.r 10] (1 % 2)=some (.r 10) from rfl];walk_at"s";rw [show atD (w.map D.int) (k:Int)=some (.int x) by rw [Zl.at_nat,Xq7,gw]; rfl];walk_at"s";refine U4 (zs':=[.r 0,.d _,.d _]) (h0:=[cR 1 cs (m:Int),.dl (vb.map .int)]) [3,12] rfl rfl rfl rfl ?_;refine Out.wp_mono cg (fun z os hz=>?_) (fun x os hz=>?_)
 rotate_left
 . exact absurd hz.1 (by rw [Qw1 (List.getElem_mem _) ⟨x0,x1⟩]; simp)
 obtain ⟨_,rfl,rfl⟩:=hz;rw [show Q9 [3,12] [.dl d9,cR 11 cs (m:Int),.dl j2,cR 12 cs (m:Int),.dl j4,.zl [.r 1,.r 3],.zl [.r 8,.r 10],.dl j7,.dl (va.map .int),.dl (us.map .int),.dl (w.map .int),.dl (va.map .int),.dl (vb.map .int),.ins Q5 [(f_cells,.r 3),(f_saved,.d (.lst []))]] [cR 1 cs (m:Int),.dl (w.map .int)]=[.dl d9,cR 11 cs (m:Int),.dl j2,cR 12 cs (m:Int),.dl j4,.zl [.r 1,.r 3],.zl [.r 8,.r 10],.dl j7,.dl (va.map .int),.dl (us.map .int),.dl (w.map .int),.dl (va.map .int),.dl (w.map .int),.ins Q5 [(f_cells,.r 3),(f_saved,.d (.lst []))]] from rfl];walk_at"s";rw [show atZ [Z.r 1,Z.r 3] (1 % 2)=some (.r 3) from rfl];walk_at"s";rw [O3,show (some X2).bind mtP_contents=some M_Cells_contents_get from rfl];walk_at"s";refine U4 (zs':=[.r 0]) (h0:=[cR 1 cs (m:Int),.dl (w.map .int)]) [3,12] rfl rfl rfl rfl ?_;rw [Z0,wp_ok];rw [show Q9 [3,12] [.dl d9,cR 11 cs (m:Int),.dl j2,cR 12 cs (m:Int),.dl j4,.zl [.r 1,.r 3],.zl [.r 8,.r 10],.dl j7,.dl (va.map .int),.dl (us.map .int),.dl (w.map .int),.dl (va.map .int),.dl (w.map .int),.ins Q5 [(f_cells,.r 3),(f_saved,.d (.lst []))]] [cR 1 cs (m:Int),.dl (w.map .int)]=[.dl d9,cR 11 cs (m:Int),.dl j2,cR 12 cs (m:Int),.dl j4,.zl [.r 1,.r 3],.zl [.r 8,.r 10],.dl j7,.dl (va.map .int),.dl (us.map .int),.dl (w.map .int),.dl (va.map .int),.dl (w.map .int),.ins Q5 [(f_cells,.r 3),(f_saved,.d (.lst []))]] from rfl,show ∀ n d,unZ [3,12] n (.d d) = .d d from fun _ _=>rfl];walk_at"s";rw [show atZ [Z.r 8,Z.r 10] (1 % 2)=some (.r 10) from rfl];walk_at"s";refine X9 (xs:=[_,_]) (V0 (a:=w) (by omega)) ?_;walk_at"s";rw [show gcS 12 (OutS.nx [some (.d y0),some (.r 0),some (.d (.lst (cs.map .str))),some (.d (.int (m:Int))),some (.r 5),some (.r 6),none,none,none,none,none,none,none,none,none,none] [.dl d9,cR 11 cs (m:Int),.dl j2,cR 12 cs (m:Int),.dl j4,.zl [.r 1,.r 3],.zl [.r 8,.r 10],.dl j7,.dl (va.map .int),.dl (us.map .int),.dl (w.map .int),.dl (va.map .int),.dl (w.map .int),.ins Q5 [(f_cells,.r 3),(f_saved,.d (.lst []))]]) = .nx [some (.d y0),some (.r 0),some (.d (.lst (cs.map .str))),some (.d (.int (m:Int))),some (.r 5),some (.r 6),none,none,none,none,none,none,none,none,none,none] [.dl d9,cR 11 cs (m:Int),.dl j2,cR 12 cs (m:Int),.dl j4,.zl [.r 1,.r 3],.zl [.r 8,.r 10],.dl j7,.dl (va.map .int),.dl (us.map .int),.dl (w.map .int),.dl (va.map .int),.dl (w.map .int)] from rfl];walk_at"s";exact ⟨d9,us.map .int,w,i9,lw,rfl⟩
theorem Xb0 {y0:D} {cs:List (List Nat)} {m:Nat} {e:List D} {va vb:List Int} {j2 j4 j7 j9:List D} (hc:H5 cs) (hne:cs≠[]) (l3:cs.length<=3) (hm3:1<=m/\m<=3) (ie:Ints e) (lva:va.length=cs.length) (lvb:vb.length=cs.length) :
   (QB9 [some (.d y0),some (.r 0),some (.d (.lst (cs.map .str))),some (.d (.int (m:Int))),some (.r 5),some (.r 6),none,none,none,some (.d (.int 2)),none,none,none,none,none,none] [.dl e,cR 11 cs (m:Int),.dl j2,cR 12 cs (m:Int),.dl j4,.zl [.r 1,.r 3],.zl [.r 8,.r 10],.dl j7,.dl (va.map .int),.dl j9,.dl (vb.map .int),.dl (va.map .int),.dl (vb.map .int)]).wp ⟨fun s h=>∃ (e2 u:List D) (w:List Int),Ints e2/\w.length=cs.length/\s=[some (.d y0),some (.r 0),some (.d (.lst (cs.map .str))),some (.d (.int (m:Int))),some (.r 5),some (.r 6),none,none,none,none,none,none,none,none,none,none]/\h=[.dl e2,cR 13 cs (m:Int),.dl j2,cR 12 cs (m:Int),.dl j4,.zl [.r 1,.r 3],.zl [.r 8,.r 10],.dl j7,.dl (w.map .int),.dl j9,.dl (vb.map .int),.dl u,.dl (vb.map .int),.dl (w.map .int)],fun _ _=>False,fun _ _=>False,fun _ _=>False,fun _ _ _=>False⟩:=by
 have l0:0<cs.length:=List.length_pos_iff.mpr hne;unfold QB9;walk_at"s";obtain ⟨chs,d7,l7,i7,e7⟩:=B2 (m:=m) hc hne l3 hm3 ie;refine Qf3 (zs':=[.r 0,.d _,.d _]) (h0:=[.dl _]) [0] rfl rfl rfl rfl e7 rfl rfl ?_;walk_at"s";rw [show atZ [Z.r 8,Z.r 10] (2 % 2)=some (.r 8) from rfl];walk_at"s";refine Qf3 (zs':=[.d _,.d _,.r 0,.d _]) (h0:=[.dl _]) [8] rfl rfl rfl rfl (Qd0 lva l3) rfl rfl ?_;walk_at"s";rw [show atZ [Z.r 1,Z.r 3] (2 % 2)=some (.r 1) from rfl];walk_at"s";refine U4 (zs':=[.r 0,.d _]) (h0:=[cR 1 cs m,.dl (va.map .int)]) [1,11] rfl rfl rfl rfl ?_;rw [O6 lva,wp_ok];obtain ⟨a,r,eo,po,ha⟩:=D2 (cs:=cs) (n:=(m:Int)) (vs:=va) (chs:=chs) (by omega);rw [eo];generalize (T3 cs (m:Int) va chs).2=us;rw [show Q9 [1,11] [.dl d7,cR 11 cs (m:Int),.dl j2,cR 12 cs (m:Int),.dl j4,.zl [.r 1,.r 3],.zl [.r 8,.r 10],.dl j7,.dl (va.map .int),.dl j9,.dl (vb.map .int),.dl (va.map .int),.dl (vb.map .int)] [cR 2 cs (m:Int),.dl (us.map .int),.dl (va.map .int)]=[.dl d7,cR 13 cs (m:Int),.dl j2,cR 12 cs (m:Int),.dl j4,.zl [.r 1,.r 3],.zl [.r 8,.r 10],.dl j7,.dl (va.map .int),.dl j9,.dl (vb.map .int),.dl (us.map .int),.dl (vb.map .int),.dl (va.map .int)] from rfl,show ∀ n d,unZ [1,11] n (.d d) = .d d from fun _ _=>rfl];walk_at"s";rw [Qd1];walk_at"s";refine QB8 (fun s h=>s=[some (.d y0),some (.r 0),some (.d (.lst (cs.map .str))),some (.d (.int (m:Int))),some (.r 5),some (.r 6),none,none,none,some (.d (.int 2)),some (.d (.lst (chs.map chD))),some (.d (.tup (.str a::r))),some (.d (.lst (chs.map chD))),some (.d (.tup (.str a::r))),none,none]/\h=[.dl d7,cR 13 cs (m:Int),.dl j2,cR 12 cs (m:Int),.dl j4,.zl [.r 1,.r 3],.zl [.r 8,.r 10],.dl j7,.dl (va.map .int),.dl j9,.dl (vb.map .int),.dl (us.map .int),.dl (vb.map .int),.dl (va.map .int)]) ?_ ?_
 . unfold IF2;walk_at"s";rw [show [115,116,97,116,101]=STA from rfl]
   by_cases ea:a=STA
   . obtain ⟨ws,lw,rfl⟩:=ha ea;rw [if_pos ea];walk_at"s";refine X9 (xs:=[_,_]) (V0 (a:=ws) (by omega)) ?_;walk_at"s"
     first | done | exact ⟨rfl,rfl⟩
   . rw [if_neg ea];walk_at"s"
     first | done | exact ⟨rfl,rfl⟩
 rintro s h ⟨rfl,rfl⟩;walk_at"s";rw [po];walk_at"s";rw [show atZ [Z.r 1,Z.r 3] (2 % 2)=some (.r 1) from rfl];walk_at"s";rw [O2,show (some X2).bind mtCells_trial=some M_Cells_trial from rfl];walk_at"s";refine U4 (zs':=[.r 0]) (h0:=[cR 1 cs (m:Int),.dl (va.map .int)]) [1,13] rfl rfl rfl rfl ?_;rw [R8,wp_ok];rw [show Q9 [1,13] [.dl d7,cR 13 cs (m:Int),.dl j2,cR 12 cs (m:Int),.dl j4,.zl [.r 1,.r 3],.zl [.r 8,.r 10],.dl j7,.dl (va.map .int),.dl j9,.dl (vb.map .int),.dl (us.map .int),.dl (vb.map .int),.dl (va.map .int)] [cR 1 cs (m:Int),.dl (va.map .int),.ins Q5 [(f_cells,.r 0),(f_saved,.d (.lst []))]]=[.dl d7,cR 13 cs (m:Int),.dl j2,cR 12 cs (m:Int),.dl j4,.zl [.r 1,.r 3],.zl [.r 8,.r 10],.dl j7,.dl (va.map .int),.dl j9,.dl (vb.map .int),.dl (us.map .int),.dl (vb.map .int),.dl (va.map .int),.ins Q5 [(f_cells,.r 1),(f_saved,.d (.lst []))]] from rfl,show unZ [1,13] [.dl d7,cR 13 cs (m:Int),.dl j2,cR 12 cs (m:Int),.dl j4,.zl [.r 1,.r 3],.zl [.r 8,.r 10],.dl j7,.dl (va.map .int),.dl j9,.dl (vb.map .int),.dl (us.map .int),.dl (vb.map .int),.dl (va.map .int)].length (.r 2) = .r 14 from rfl];walk_at"s";rw [show ∀ h,QD1 false (.r 14) (.d .non) h = .ok (.d (.bl false)) h from fun _=>rfl];walk_at"s";refine ⟨R9 (by decide) (by decide),?_⟩;rw [show H9 0 2=[.d (.int 0),.d (.int 1)] from rfl];refine Y4 ?_;walk_at"s";rw [show atZ [Z.r 1,Z.r 3] 0=some (.r 1) from rfl];walk_at"s";rw [O2,show (some X2).bind mtP_contents=some M_Cells_contents_get from rfl];walk_at"s";refine U4 (zs':=[.r 0]) (h0:=[cR 1 cs (m:Int),.dl (va.map .int)]) [1,13] rfl rfl rfl rfl ?_;rw [Z0,wp_ok];rw [show Q9 [1,13] [.dl d7,cR 13 cs (m:Int),.dl j2,cR 12 cs (m:Int),.dl j4,.zl [.r 1,.r 3],.zl [.r 8,.r 10],.dl j7,.dl (va.map .int),.dl j9,.dl (vb.map .int),.dl (us.map .int),.dl (vb.map .int),.dl (va.map .int),.ins Q5 [(f_cells,.r 1),(f_saved,.d (.lst []))]] [cR 1 cs (m:Int),.dl (va.map .int)]=[.dl d7,cR 13 cs (m:Int),.dl j2,cR 12 cs (m:Int),.dl j4,.zl [.r 1,.r 3],.zl [.r 8,.r 10],.dl j7,.dl (va.map .int),.dl j9,.dl (vb.map .int),.dl (us.map .int),.dl (vb.map .int),.dl (va.map .int),.ins Q5 [(f_cells,.r 1),(f_saved,.d (.lst []))]] from rfl,show ∀ n d,unZ [1,13] n (.d d) = .d d from fun _ _=>rfl];walk_at"s";rw [show atZ [Z.r 8,Z.r 10] 0=some (.r 8) from rfl];walk_at"s";refine X9 (xs:=[_,_]) (V0 (a:=va) (by omega)) ?_;walk_at"s";rw [show gcS 15 (OutS.nx [some (.d y0),some (.r 0),some (.d (.lst (cs.map .str))),some (.d (.int (m:Int))),some (.r 5),some (.r 6),none,none,none,some (.d (.int 2)),some (.d (.lst (chs.map chD))),some (.d (.tup (.str a::r))),some (.d (.lst (chs.map chD))),some (.d (.tup (.str a::r))),none,none] [.dl d7,cR 13 cs (m:Int),.dl j2,cR 12 cs (m:Int),.dl j4,.zl [.r 1,.r 3],.zl [.r 8,.r 10],.dl j7,.dl (va.map .int),.dl j9,.dl (vb.map .int),.dl (us.map .int),.dl (vb.map .int),.dl (va.map .int),.ins Q5 [(f_cells,.r 1),(f_saved,.d (.lst []))]]) = .nx [some (.d y0),some (.r 0),some (.d (.lst (cs.map .str))),some (.d (.int (m:Int))),some (.r 5),some (.r 6),none,none,none,some (.d (.int 2)),some (.d (.lst (chs.map chD))),some (.d (.tup (.str a::r))),some (.d (.lst (chs.map chD))),some (.d (.tup (.str a::r))),none,none] [.dl d7,cR 13 cs (m:Int),.dl j2,cR 12 cs (m:Int),.dl j4,.zl [.r 1,.r 3],.zl [.r 8,.r 10],.dl j7,.dl (va.map .int),.dl j9,.dl (vb.map .int),.dl (us.map .int),.dl (vb.map .int),.dl (va.map .int),.ins Q5 [(f_cells,.r 1),(f_saved,.d (.lst []))]] from rfl];walk_at"s";refine Y4 ?_;walk_at"s";rw [show atZ [Z.r 1,Z.r 3] 1=some (.r 3) from rfl];walk_at"s";rw [O3,show (some X2).bind mtP_contents=some M_Cells_contents_get from rfl];walk_at"s";refine U4 (zs':=[.r 0]) (h0:=[cR 1 cs (m:Int),.dl (vb.map .int)]) [3,12] rfl rfl rfl rfl ?_;rw [Z0,wp_ok];rw [show Q9 [3,12] [.dl d7,cR 13 cs (m:Int),.dl j2,cR 12 cs (m:Int),.dl j4,.zl [.r 1,.r 3],.zl [.r 8,.r 10],.dl j7,.dl (va.map .int),.dl j9,.dl (vb.map .int),.dl (us.map .int),.dl (vb.map .int),.dl (va.map .int),.ins Q5 [(f_cells,.r 1),(f_saved,.d (.lst []))]] [cR 1 cs (m:Int),.dl (vb.map .int)]=[.dl d7,cR 13 cs (m:Int),.dl j2,cR 12 cs (m:Int),.dl j4,.zl [.r 1,.r 3],.zl [.r 8,.r 10],.dl j7,.dl (va.map .int),.dl j9,.dl (vb.map .int),.dl (us.map .int),.dl (vb.map .int),.dl (va.map .int),.ins Q5 [(f_cells,.r 1),(f_saved,.d (.lst []))]] from rfl,show ∀ n d,unZ [3,12] n (.d d) = .d d from fun _ _=>rfl];walk_at"s";rw [show atZ [Z.r 8,Z.r 10] 1=some (.r 10) from rfl];walk_at"s";refine X9 (xs:=[_,_]) (V0 (a:=vb) (by omega)) ?_;walk_at"s";rw [show gcS 15 (OutS.nx [some (.d y0),some (.r 0),some (.d (.lst (cs.map .str))),some (.d (.int (m:Int))),some (.r 5),some (.r 6),none,none,none,some (.d (.int 2)),some (.d (.lst (chs.map chD))),some (.d (.tup (.str a::r))),some (.d (.lst (chs.map chD))),some (.d (.tup (.str a::r))),none,none] [.dl d7,cR 13 cs (m:Int),.dl j2,cR 12 cs (m:Int),.dl j4,.zl [.r 1,.r 3],.zl [.r 8,.r 10],.dl j7,.dl (va.map .int),.dl j9,.dl (vb.map .int),.dl (us.map .int),.dl (vb.map .int),.dl (va.map .int),.ins Q5 [(f_cells,.r 1),(f_saved,.d (.lst []))]]) = .nx [some (.d y0),some (.r 0),some (.d (.lst (cs.map .str))),some (.d (.int (m:Int))),some (.r 5),some (.r 6),none,none,none,some (.d (.int 2)),some (.d (.lst (chs.map chD))),some (.d (.tup (.str a::r))),some (.d (.lst (chs.map chD))),some (.d (.tup (.str a::r))),none,none] [.dl d7,cR 13 cs (m:Int),.dl j2,cR 12 cs (m:Int),.dl j4,.zl [.r 1,.r 3],.zl [.r 8,.r 10],.dl j7,.dl (va.map .int),.dl j9,.dl (vb.map .int),.dl (us.map .int),.dl (vb.map .int),.dl (va.map .int),.ins Q5 [(f_cells,.r 1),(f_saved,.d (.lst []))]] from rfl];walk_at"s";refine P1 ?_;walk_at"s";rw [Xq5];refine V2 rfl i7 (by omega) fun q d8 i8 q0 q1=>?_;obtain ⟨k,rfl⟩:∃ k:Nat,q=k:=⟨q.toNat,by omega⟩;have hk:k<cs.length:=by omega
 walk_at"s";refine V2 rfl i8 (by omega) fun x d9 i9 x0 x1=>?_;walk_at"s";rw [show atZ [Z.r 8,Z.r 10] (2 % 2)=some (.r 8) from rfl];walk_at"s";rw [F7 (by omega) (by rw [Xq5]; omega),Int.toNat_natCast,optP_some,<- List.map_set];have nv:Qh1 cs va cs[k] x=va.set k x:=by unfold Qh1; rw [hc.1.idxOf_getElem k hk]
 have cg:=D0 (cs:=cs) (n:=(m:Int)) (vs:=va) (c:=cs[k]) (v:=x) lva;rw [nv] at cg;have lw:(va.set k x).length=cs.length:=by rw [List.length_set]; exact lva
 have gw:(va.set k x)[k]? = some x:=by rw [Xr3 (by omega)]
 generalize va.set k x=w at *;walk_at"s";rw [show atZ [Z.r 1,Z.r 3] (2 % 2)=some (.r 1) from rfl];walk_at"s";rw [O2,show (some X2).bind mtCells_change=some M_Cells_change from rfl];walk_at"s";rw [show atD (cs.map D.str) (k:Int)=some (.str cs[k]) by rw [Zl.at_nat,Xq7,Xq6 hk]; rfl];walk_at"s";rw [show atZ [Z.r 8,Z.r 10] (2 % 2)=some (.r 8) from rfl];walk_at"s";rw [show atD (w.map D.int) (k:Int)=some (.int x) by rw [Zl.at_nat,Xq7,gw]; rfl];walk_at"s";refine U4 (zs':=[.r 0,.d _,.d _]) (h0:=[cR 1 cs (m:Int),.dl (va.map .int)]) [1,13] rfl rfl rfl rfl ?_;refine Out.wp_mono cg (fun z os hz=>?_) (fun x os hz=>?_)
 rotate_left
 . exact absurd hz.1 (by rw [Qw1 (List.getElem_mem _) ⟨x0,x1⟩]; simp)
 obtain ⟨_,rfl,rfl⟩:=hz;rw [show Q9 [1,13] [.dl d9,cR 13 cs (m:Int),.dl j2,cR 12 cs (m:Int),.dl j4,.zl [.r 1,.r 3],.zl [.r 8,.r 10],.dl j7,.dl (w.map .int),.dl j9,.dl (vb.map .int),.dl (us.map .int),.dl (vb.map .int),.dl (va.map .int),.ins Q5 [(f_cells,.r 1),(f_saved,.d (.lst []))]] [cR 1 cs (m:Int),.dl (w.map .int)]=[.dl d9,cR 13 cs (m:Int),.dl j2,cR 12 cs (m:Int),.dl j4,.zl [.r 1,.r 3],.zl [.r 8,.r 10],.dl j7,.dl (w.map .int),.dl j9,.dl (vb.map .int),.dl (us.map .int),.dl (vb.map .int),.dl (w.map .int),.ins Q5 [(f_cells,.r 1),(f_saved,.d (.lst []))]] from rfl];walk_at"s";rw [show atZ [Z.r 1,Z.r 3] (2 % 2)=some (.r 1) from rfl];walk_at"s";rw [O2,show (some X2).bind mtP_contents=some M_Cells_contents_get from rfl];walk_at"s";refine U4 (zs':=[.r 0]) (h0:=[cR 1 cs (m:Int),.dl (w.map .int)]) [1,13] rfl rfl rfl rfl ?_;rw [Z0,wp_ok];rw [show Q9 [1,13] [.dl d9,cR 13 cs (m:Int),.dl j2,cR 12 cs (m:Int),.dl j4,.zl [.r 1,.r 3],.zl [.r 8,.r 10],.dl j7,.dl (w.map .int),.dl j9,.dl (vb.map .int),.dl (us.map .int),.dl (vb.map .int),.dl (w.map .int),.ins Q5 [(f_cells,.r 1),(f_saved,.d (.lst []))]] [cR 1 cs (m:Int),.dl (w.map .int)]=[.dl d9,cR 13 cs (m:Int),.dl j2,cR 12 cs (m:Int),.dl j4,.zl [.r 1,.r 3],.zl [.r 8,.r 10],.dl j7,.dl (w.map .int),.dl j9,.dl (vb.map .int),.dl (us.map .int),.dl (vb.map .int),.dl (w.map .int),.ins Q5 [(f_cells,.r 1),(f_saved,.d (.lst []))]] from rfl,show ∀ n d,unZ [1,13] n (.d d) = .d d from fun _ _=>rfl];walk_at"s";rw [show atZ [Z.r 8,Z.r 10] (2 % 2)=some (.r 8) from rfl];walk_at"s";refine X9 (xs:=[_,_]) (V0 (a:=w) (by omega)) ?_;walk_at"s";rw [show gcS 13 (OutS.nx [some (.d y0),some (.r 0),some (.d (.lst (cs.map .str))),some (.d (.int (m:Int))),some (.r 5),some (.r 6),none,none,none,none,none,none,none,none,none,none] [.dl d9,cR 13 cs (m:Int),.dl j2,cR 12 cs (m:Int),.dl j4,.zl [.r 1,.r 3],.zl [.r 8,.r 10],.dl j7,.dl (w.map .int),.dl j9,.dl (vb.map .int),.dl (us.map .int),.dl (vb.map .int),.dl (w.map .int),.ins Q5 [(f_cells,.r 1),(f_saved,.d (.lst []))]]) = .nx [some (.d y0),some (.r 0),some (.d (.lst (cs.map .str))),some (.d (.int (m:Int))),some (.r 5),some (.r 6),none,none,none,none,none,none,none,none,none,none] [.dl d9,cR 13 cs (m:Int),.dl j2,cR 12 cs (m:Int),.dl j4,.zl [.r 1,.r 3],.zl [.r 8,.r 10],.dl j7,.dl (w.map .int),.dl j9,.dl (vb.map .int),.dl (us.map .int),.dl (vb.map .int),.dl (w.map .int)] from rfl];walk_at"s";exact ⟨d9,us.map .int,w,i9,lw,rfl⟩
theorem Xb1 {y0:D} {cs:List (List Nat)} {m:Nat} {e:List D} {va vb:List Int} {j2 j4 j7 j9 j11:List D} (hc:H5 cs) (hne:cs≠[]) (l3:cs.length<=3) (hm3:1<=m/\m<=3) (ie:Ints e) (lva:va.length=cs.length) (lvb:vb.length=cs.length) :
   (QB9 [some (.d y0),some (.r 0),some (.d (.lst (cs.map .str))),some (.d (.int (m:Int))),some (.r 5),some (.r 6),none,none,none,some (.d (.int 3)),none,none,none,none,none,none] [.dl e,cR 13 cs (m:Int),.dl j2,cR 12 cs (m:Int),.dl j4,.zl [.r 1,.r 3],.zl [.r 8,.r 10],.dl j7,.dl (va.map .int),.dl j9,.dl (vb.map .int),.dl j11,.dl (vb.map .int),.dl (va.map .int)]).wp ⟨fun s h=>∃ (e2 u:List D) (w:List Int),Ints e2/\w.length=cs.length/\s=[some (.d y0),some (.r 0),some (.d (.lst (cs.map .str))),some (.d (.int (m:Int))),some (.r 5),some (.r 6),none,none,none,none,none,none,none,none,none,none]/\h=[.dl e2,cR 13 cs (m:Int),.dl j2,cR 14 cs (m:Int),.dl j4,.zl [.r 1,.r 3],.zl [.r 8,.r 10],.dl j7,.dl (va.map .int),.dl j9,.dl (w.map .int),.dl j11,.dl u,.dl (va.map .int),.dl (w.map .int)],fun _ _=>False,fun _ _=>False,fun _ _=>False,fun _ _ _=>False⟩:=by
 have l0:0<cs.length:=List.length_pos_iff.mpr hne;unfold QB9;walk_at"s";obtain ⟨chs,d7,l7,i7,e7⟩:=B2 (m:=m) hc hne l3 hm3 ie;refine Qf3 (zs':=[.r 0,.d _,.d _]) (h0:=[.dl _]) [0] rfl rfl rfl rfl e7 rfl rfl ?_;walk_at"s";rw [show atZ [Z.r 8,Z.r 10] (3 % 2)=some (.r 10) from rfl];walk_at"s";refine Qf3 (zs':=[.d _,.d _,.r 0,.d _]) (h0:=[.dl _]) [10] rfl rfl rfl rfl (Qd0 lvb l3) rfl rfl ?_;walk_at"s";rw [show atZ [Z.r 1,Z.r 3] (3 % 2)=some (.r 3) from rfl];walk_at"s";refine U4 (zs':=[.r 0,.d _]) (h0:=[cR 1 cs m,.dl (vb.map .int)]) [3,12] rfl rfl rfl rfl ?_;rw [O6 lvb,wp_ok];obtain ⟨a,r,eo,po,ha⟩:=D2 (cs:=cs) (n:=(m:Int)) (vs:=vb) (chs:=chs) (by omega);rw [eo];generalize (T3 cs (m:Int) vb chs).2=us;rw [show Q9 [3,12] [.dl d7,cR 13 cs (m:Int),.dl j2,cR 12 cs (m:Int),.dl j4,.zl [.r 1,.r 3],.zl [.r 8,.r 10],.dl j7,.dl (va.map .int),.dl j9,.dl (vb.map .int),.dl j11,.dl (vb.map .int),.dl (va.map .int)] [cR 2 cs (m:Int),.dl (us.map .int),.dl (vb.map .int)]=[.dl d7,cR 13 cs (m:Int),.dl j2,cR 14 cs (m:Int),.dl j4,.zl [.r 1,.r 3],.zl [.r 8,.r 10],.dl j7,.dl (va.map .int),.dl j9,.dl (vb.map .int),.dl j11,.dl (us.map .int),.dl (va.map .int),.dl (vb.map .int)] from rfl,show ∀ n d,unZ [3,12] n (.d d) = .d d from fun _ _=>rfl];walk_at"s";rw [Qd1];walk_at"s";refine QB8 (fun s h=>s=[some (.d y0),some (.r 0),some (.d (.lst (cs.map .str))),some (.d (.int (m:Int))),some (.r 5),some (.r 6),none,none,none,some (.d (.int 3)),some (.d (.lst (chs.map chD))),some (.d (.tup (.str a::r))),some (.d (.lst (chs.map chD))),some (.d (.tup (.str a::r))),none,none]/\h=[.dl d7,cR 13 cs (m:Int),.dl j2,cR 14 cs (m:Int),.dl j4,.zl [.r 1,.r 3],.zl [.r 8,.r 10],.dl j7,.dl (va.map .int),.dl j9,.dl (vb.map .int),.dl j11,.dl (us.map .int),.dl (va.map .int),.dl (vb.map .int)]) ?_ ?_
 . unfold IF2;walk_at"s";rw [show [115,116,97,116,101]=STA from rfl]
   by_cases ea:a=STA
   . obtain ⟨ws,lw,rfl⟩:=ha ea;rw [if_pos ea];walk_at"s";refine X9 (xs:=[_,_]) (V0 (a:=ws) (by omega)) ?_;walk_at"s"
     first | done | exact ⟨rfl,rfl⟩
   . rw [if_neg ea];walk_at"s"
     first | done | exact ⟨rfl,rfl⟩
 rintro s h ⟨rfl,rfl⟩;walk_at"s";rw [po];walk_at"s";rw [show atZ [Z.r 1,Z.r 3] (3 % 2)=some (.r 3) from rfl];walk_at"s";rw [O3,show (some X2).bind mtCells_trial=some M_Cells_trial from rfl];walk_at"s";refine U4 (zs':=[.r 0]) (h0:=[cR 1 cs (m:Int),.dl (vb.map .int)]) [3,14] rfl rfl rfl rfl ?_;rw [R8,wp_ok];rw [show Q9 [3,14] [.dl d7,cR 13 cs (m:Int),.dl j2,cR 14 cs (m:Int),.dl j4,.zl [.r 1,.r 3],.zl [.r 8,.r 10],.dl j7,.dl (va.map .int),.dl j9,.dl (vb.map .int),.dl j11,.dl (us.map .int),.dl (va.map .int),.dl (vb.map .int)] [cR 1 cs (m:Int),.dl (vb.map .int),.ins Q5 [(f_cells,.r 0),(f_saved,.d (.lst []))]]=[.dl d7,cR 13 cs (m:Int),.dl j2,cR 14 cs (m:Int),.dl j4,.zl [.r 1,.r 3],.zl [.r 8,.r 10],.dl j7,.dl (va.map .int),.dl j9,.dl (vb.map .int),.dl j11,.dl (us.map .int),.dl (va.map .int),.dl (vb.map .int),.ins Q5 [(f_cells,.r 3),(f_saved,.d (.lst []))]] from rfl,show unZ [3,14] [.dl d7,cR 13 cs (m:Int),.dl j2,cR 14 cs (m:Int),.dl j4,.zl [.r 1,.r 3],.zl [.r 8,.r 10],.dl j7,.dl (va.map .int),.dl j9,.dl (vb.map .int),.dl j11,.dl (us.map .int),.dl (va.map .int),.dl (vb.map .int)].length (.r 2) = .r 15 from rfl];walk_at"s";rw [show ∀ h,QD1 false (.r 15) (.d .non) h = .ok (.d (.bl false)) h from fun _=>rfl];walk_at"s";refine ⟨R9 (by decide) (by decide),?_⟩;rw [show H9 0 2=[.d (.int 0),.d (.int 1)] from rfl];refine Y4 ?_;walk_at"s";rw [show atZ [Z.r 1,Z.r 3] 0=some (.r 1) from rfl];walk_at"s";rw [O2,show (some X2).bind mtP_contents=some M_Cells_contents_get from rfl];walk_at"s";refine U4 (zs':=[.r 0]) (h0:=[cR 1 cs (m:Int),.dl (va.map .int)]) [1,13] rfl rfl rfl rfl ?_;rw [Z0,wp_ok];rw [show Q9 [1,13] [.dl d7,cR 13 cs (m:Int),.dl j2,cR 14 cs (m:Int),.dl j4,.zl [.r 1,.r 3],.zl [.r 8,.r 10],.dl j7,.dl (va.map .int),.dl j9,.dl (vb.map .int),.dl j11,.dl (us.map .int),.dl (va.map .int),.dl (vb.map .int),.ins Q5 [(f_cells,.r 3),(f_saved,.d (.lst []))]] [cR 1 cs (m:Int),.dl (va.map .int)]=[.dl d7,cR 13 cs (m:Int),.dl j2,cR 14 cs (m:Int),.dl j4,.zl [.r 1,.r 3],.zl [.r 8,.r 10],.dl j7,.dl (va.map .int),.dl j9,.dl (vb.map .int),.dl j11,.dl (us.map .int),.dl (va.map .int),.dl (vb.map .int),.ins Q5 [(f_cells,.r 3),(f_saved,.d (.lst []))]] from rfl,show ∀ n d,unZ [1,13] n (.d d) = .d d from fun _ _=>rfl];walk_at"s";rw [show atZ [Z.r 8,Z.r 10] 0=some (.r 8) from rfl];walk_at"s";refine X9 (xs:=[_,_]) (V0 (a:=va) (by omega)) ?_;walk_at"s";rw [show gcS 16 (OutS.nx [some (.d y0),some (.r 0),some (.d (.lst (cs.map .str))),some (.d (.int (m:Int))),some (.r 5),some (.r 6),none,none,none,some (.d (.int 3)),some (.d (.lst (chs.map chD))),some (.d (.tup (.str a::r))),some (.d (.lst (chs.map chD))),some (.d (.tup (.str a::r))),none,none] [.dl d7,cR 13 cs (m:Int),.dl j2,cR 14 cs (m:Int),.dl j4,.zl [.r 1,.r 3],.zl [.r 8,.r 10],.dl j7,.dl (va.map .int),.dl j9,.dl (vb.map .int),.dl j11,.dl (us.map .int),.dl (va.map .int),.dl (vb.map .int),.ins Q5 [(f_cells,.r 3),(f_saved,.d (.lst []))]]) = .nx [some (.d y0),some (.r 0),some (.d (.lst (cs.map .str))),some (.d (.int (m:Int))),some (.r 5),some (.r 6),none,none,none,some (.d (.int 3)),some (.d (.lst (chs.map chD))),some (.d (.tup (.str a::r))),some (.d (.lst (chs.map chD))),some (.d (.tup (.str a::r))),none,none] [.dl d7,cR 13 cs (m:Int),.dl j2,cR 14 cs (m:Int),.dl j4,.zl [.r 1,.r 3],.zl [.r 8,.r 10],.dl j7,.dl (va.map .int),.dl j9,.dl (vb.map .int),.dl j11,.dl (us.map .int),.dl (va.map .int),.dl (vb.map .int),.ins Q5 [(f_cells,.r 3),(f_saved,.d (.lst []))]] from rfl];walk_at"s";refine Y4 ?_;walk_at"s";rw [show atZ [Z.r 1,Z.r 3] 1=some (.r 3) from rfl];walk_at"s";rw [O3,show (some X2).bind mtP_contents=some M_Cells_contents_get from rfl];walk_at"s";refine U4 (zs':=[.r 0]) (h0:=[cR 1 cs (m:Int),.dl (vb.map .int)]) [3,14] rfl rfl rfl rfl ?_;rw [Z0,wp_ok];rw [show Q9 [3,14] [.dl d7,cR 13 cs (m:Int),.dl j2,cR 14 cs (m:Int),.dl j4,.zl [.r 1,.r 3],.zl [.r 8,.r 10],.dl j7,.dl (va.map .int),.dl j9,.dl (vb.map .int),.dl j11,.dl (us.map .int),.dl (va.map .int),.dl (vb.map .int),.ins Q5 [(f_cells,.r 3),(f_saved,.d (.lst []))]] [cR 1 cs (m:Int),.dl (vb.map .int)]=[.dl d7,cR 13 cs (m:Int),.dl j2,cR 14 cs (m:Int),.dl j4,.zl [.r 1,.r 3],.zl [.r 8,.r 10],.dl j7,.dl (va.map .int),.dl j9,.dl (vb.map .int),.dl j11,.dl (us.map .int),.dl (va.map .int),.dl (vb.map .int),.ins Q5 [(f_cells,.r 3),(f_saved,.d (.lst []))]] from rfl,show ∀ n d,unZ [3,14] n (.d d) = .d d from fun _ _=>rfl];walk_at"s";rw [show atZ [Z.r 8,Z.r 10] 1=some (.r 10) from rfl];walk_at"s";refine X9 (xs:=[_,_]) (V0 (a:=vb) (by omega)) ?_;walk_at"s";rw [show gcS 16 (OutS.nx [some (.d y0),some (.r 0),some (.d (.lst (cs.map .str))),some (.d (.int (m:Int))),some (.r 5),some (.r 6),none,none,none,some (.d (.int 3)),some (.d (.lst (chs.map chD))),some (.d (.tup (.str a::r))),some (.d (.lst (chs.map chD))),some (.d (.tup (.str a::r))),none,none] [.dl d7,cR 13 cs (m:Int),.dl j2,cR 14 cs (m:Int),.dl j4,.zl [.r 1,.r 3],.zl [.r 8,.r 10],.dl j7,.dl (va.map .int),.dl j9,.dl (vb.map .int),.dl j11,.dl (us.map .int),.dl (va.map .int),.dl (vb.map .int),.ins Q5 [(f_cells,.r 3),(f_saved,.d (.lst []))]]) = .nx [some (.d y0),some (.r 0),some (.d (.lst (cs.map .str))),some (.d (.int (m:Int))),some (.r 5),some (.r 6),none,none,none,some (.d (.int 3)),some (.d (.lst (chs.map chD))),some (.d (.tup (.str a::r))),some (.d (.lst (chs.map chD))),some (.d (.tup (.str a::r))),none,none] [.dl d7,cR 13 cs (m:Int),.dl j2,cR 14 cs (m:Int),.dl j4,.zl [.r 1,.r 3],.zl [.r 8,.r 10],.dl j7,.dl (va.map .int),.dl j9,.dl (vb.map .int),.dl j11,.dl (us.map .int),.dl (va.map .int),.dl (vb.map .int),.ins Q5 [(f_cells,.r 3),(f_saved,.d (.lst []))]] from rfl];walk_at"s";refine P1 ?_;walk_at"s";rw [Xq5];refine V2 rfl i7 (by omega) fun q d8 i8 q0 q1=>?_;obtain ⟨k,rfl⟩:∃ k:Nat,q=k:=⟨q.toNat,by omega⟩;have hk:k<cs.length:=by omega
 walk_at"s";refine V2 rfl i8 (by omega) fun x d9 i9 x0 x1=>?_;walk_at"s";rw [show atZ [Z.r 8,Z.r 10] (3 % 2)=some (.r 10) from rfl];walk_at"s";rw [F7 (by omega) (by rw [Xq5]; omega),Int.toNat_natCast,optP_some,<- List.map_set];have nv:Qh1 cs vb cs[k] x=vb.set k x:=by unfold Qh1; rw [hc.1.idxOf_getElem k hk]
 have cg:=D0 (cs:=cs) (n:=(m:Int)) (vs:=vb) (c:=cs[k]) (v:=x) lvb;rw [nv] at cg;have lw:(vb.set k x).length=cs.length:=by rw [List.length_set]; exact lvb
 have gw:(vb.set k x)[k]? = some x:=by rw [Xr3 (by omega)]
 generalize vb.set k x=w at *;walk_at"s";rw [show atZ [Z.r 1,Z.r 3] (3 % 2)=some (.r 3) from rfl];walk_at"s";rw [O3,show (some X2).bind mtCells_change=some M_Cells_change from rfl];walk_at"s";rw [show atD (cs.map D.str) (k:Int)=some (.str cs[k]) by rw [Zl.at_nat,Xq7,Xq6 hk]; rfl];walk_at"s";rw [show atZ [Z.r 8,Z.r 10] (3 % 2)=some (.r 10) from rfl];walk_at"s";rw [show atD (w.map D.int) (k:Int)=some (.int x) by rw [Zl.at_nat,Xq7,gw]; rfl];walk_at"s";refine U4 (zs':=[.r 0,.d _,.d _]) (h0:=[cR 1 cs (m:Int),.dl (vb.map .int)]) [3,14] rfl rfl rfl rfl ?_;refine Out.wp_mono cg (fun z os hz=>?_) (fun x os hz=>?_)
 rotate_left
 . exact absurd hz.1 (by rw [Qw1 (List.getElem_mem _) ⟨x0,x1⟩]; simp)
 obtain ⟨_,rfl,rfl⟩:=hz;rw [show Q9 [3,14] [.dl d9,cR 13 cs (m:Int),.dl j2,cR 14 cs (m:Int),.dl j4,.zl [.r 1,.r 3],.zl [.r 8,.r 10],.dl j7,.dl (va.map .int),.dl j9,.dl (w.map .int),.dl j11,.dl (us.map .int),.dl (va.map .int),.dl (vb.map .int),.ins Q5 [(f_cells,.r 3),(f_saved,.d (.lst []))]] [cR 1 cs (m:Int),.dl (w.map .int)]=[.dl d9,cR 13 cs (m:Int),.dl j2,cR 14 cs (m:Int),.dl j4,.zl [.r 1,.r 3],.zl [.r 8,.r 10],.dl j7,.dl (va.map .int),.dl j9,.dl (w.map .int),.dl j11,.dl (us.map .int),.dl (va.map .int),.dl (w.map .int),.ins Q5 [(f_cells,.r 3),(f_saved,.d (.lst []))]] from rfl];walk_at"s";rw [show atZ [Z.r 1,Z.r 3] (3 % 2)=some (.r 3) from rfl];walk_at"s";rw [O3,show (some X2).bind mtP_contents=some M_Cells_contents_get from rfl];walk_at"s";refine U4 (zs':=[.r 0]) (h0:=[cR 1 cs (m:Int),.dl (w.map .int)]) [3,14] rfl rfl rfl rfl ?_;rw [Z0,wp_ok];rw [show Q9 [3,14] [.dl d9,cR 13 cs (m:Int),.dl j2,cR 14 cs (m:Int),.dl j4,.zl [.r 1,.r 3],.zl [.r 8,.r 10],.dl j7,.dl (va.map .int),.dl j9,.dl (w.map .int),.dl j11,.dl (us.map .int),.dl (va.map .int),.dl (w.map .int),.ins Q5 [(f_cells,.r 3),(f_saved,.d (.lst []))]] [cR 1 cs (m:Int),.dl (w.map .int)]=[.dl d9,cR 13 cs (m:Int),.dl j2,cR 14 cs (m:Int),.dl j4,.zl [.r 1,.r 3],.zl [.r 8,.r 10],.dl j7,.dl (va.map .int),.dl j9,.dl (w.map .int),.dl j11,.dl (us.map .int),.dl (va.map .int),.dl (w.map .int),.ins Q5 [(f_cells,.r 3),(f_saved,.d (.lst []))]] from rfl,show ∀ n d,unZ [3,14] n (.d d) = .d d from fun _ _=>rfl];walk_at"s";rw [show atZ [Z.r 8,Z.r 10] (3 % 2)=some (.r 10) from rfl];walk_at"s";refine X9 (xs:=[_,_]) (V0 (a:=w) (by omega)) ?_;walk_at"s";rw [show gcS 14 (OutS.nx [some (.d y0),some (.r 0),some (.d (.lst (cs.map .str))),some (.d (.int (m:Int))),some (.r 5),some (.r 6),none,none,none,none,none,none,none,none,none,none] [.dl d9,cR 13 cs (m:Int),.dl j2,cR 14 cs (m:Int),.dl j4,.zl [.r 1,.r 3],.zl [.r 8,.r 10],.dl j7,.dl (va.map .int),.dl j9,.dl (w.map .int),.dl j11,.dl (us.map .int),.dl (va.map .int),.dl (w.map .int),.ins Q5 [(f_cells,.r 3),(f_saved,.d (.lst []))]]) = .nx [some (.d y0),some (.r 0),some (.d (.lst (cs.map .str))),some (.d (.int (m:Int))),some (.r 5),some (.r 6),none,none,none,none,none,none,none,none,none,none] [.dl d9,cR 13 cs (m:Int),.dl j2,cR 14 cs (m:Int),.dl j4,.zl [.r 1,.r 3],.zl [.r 8,.r 10],.dl j7,.dl (va.map .int),.dl j9,.dl (w.map .int),.dl j11,.dl (us.map .int),.dl (va.map .int),.dl (w.map .int)] from rfl];walk_at"s";exact ⟨d9,us.map .int,w,i9,lw,rfl⟩
theorem Xb2 {y0:D} {cs:List (List Nat)} {m:Nat} {e:List D} {va vb:List Int} {j2 j4 j7 j9 j11 j12:List D} (hc:H5 cs) (hne:cs≠[]) (l3:cs.length<=3) (hm3:1<=m/\m<=3) (ie:Ints e) (lva:va.length=cs.length) (lvb:vb.length=cs.length) :
   (QB9 [some (.d y0),some (.r 0),some (.d (.lst (cs.map .str))),some (.d (.int (m:Int))),some (.r 5),some (.r 6),none,none,none,some (.d (.int 4)),none,none,none,none,none,none] [.dl e,cR 13 cs (m:Int),.dl j2,cR 14 cs (m:Int),.dl j4,.zl [.r 1,.r 3],.zl [.r 8,.r 10],.dl j7,.dl (va.map .int),.dl j9,.dl (vb.map .int),.dl j11,.dl j12,.dl (va.map .int),.dl (vb.map .int)]).wp ⟨fun s h=>∃ (e2 u:List D) (w:List Int),Ints e2/\w.length=cs.length/\s=[some (.d y0),some (.r 0),some (.d (.lst (cs.map .str))),some (.d (.int (m:Int))),some (.r 5),some (.r 6),none,none,none,none,none,none,none,none,none,none]/\h=[.dl e2,cR 15 cs (m:Int),.dl j2,cR 14 cs (m:Int),.dl j4,.zl [.r 1,.r 3],.zl [.r 8,.r 10],.dl j7,.dl (w.map .int),.dl j9,.dl (vb.map .int),.dl j11,.dl j12,.dl u,.dl (vb.map .int),.dl (w.map .int)],fun _ _=>False,fun _ _=>False,fun _ _=>False,fun _ _ _=>False⟩:=by
 have l0:0<cs.length:=List.length_pos_iff.mpr hne;unfold QB9;walk_at"s";obtain ⟨chs,d7,l7,i7,e7⟩:=B2 (m:=m) hc hne l3 hm3 ie;refine Qf3 (zs':=[.r 0,.d _,.d _]) (h0:=[.dl _]) [0] rfl rfl rfl rfl e7 rfl rfl ?_;walk_at"s";rw [show atZ [Z.r 8,Z.r 10] (4 % 2)=some (.r 8) from rfl];walk_at"s";refine Qf3 (zs':=[.d _,.d _,.r 0,.d _]) (h0:=[.dl _]) [8] rfl rfl rfl rfl (Qd0 lva l3) rfl rfl ?_;walk_at"s";rw [show atZ [Z.r 1,Z.r 3] (4 % 2)=some (.r 1) from rfl];walk_at"s";refine U4 (zs':=[.r 0,.d _]) (h0:=[cR 1 cs m,.dl (va.map .int)]) [1,13] rfl rfl rfl rfl ?_;rw [O6 lva,wp_ok];obtain ⟨a,r,eo,po,ha⟩:=D2 (cs:=cs) (n:=(m:Int)) (vs:=va) (chs:=chs) (by omega);rw [eo];generalize (T3 cs (m:Int) va chs).2=us;rw [show Q9 [1,13] [.dl d7,cR 13 cs (m:Int),.dl j2,cR 14 cs (m:Int),.dl j4,.zl [.r 1,.r 3],.zl [.r 8,.r 10],.dl j7,.dl (va.map .int),.dl j9,.dl (vb.map .int),.dl j11,.dl j12,.dl (va.map .int),.dl (vb.map .int)] [cR 2 cs (m:Int),.dl (us.map .int),.dl (va.map .int)]=[.dl d7,cR 15 cs (m:Int),.dl j2,cR 14 cs (m:Int),.dl j4,.zl [.r 1,.r 3],.zl [.r 8,.r 10],.dl j7,.dl (va.map .int),.dl j9,.dl (vb.map .int),.dl j11,.dl j12,.dl (us.map .int),.dl (vb.map .int),.dl (va.map .int)] from rfl,show ∀ n d,unZ [1,13] n (.d d) = .d d from fun _ _=>rfl];walk_at"s";rw [Qd1];walk_at"s";refine QB8 (fun s h=>s=[some (.d y0),some (.r 0),some (.d (.lst (cs.map .str))),some (.d (.int (m:Int))),some (.r 5),some (.r 6),none,none,none,some (.d (.int 4)),some (.d (.lst (chs.map chD))),some (.d (.tup (.str a::r))),some (.d (.lst (chs.map chD))),some (.d (.tup (.str a::r))),none,none]/\h=[.dl d7,cR 15 cs (m:Int),.dl j2,cR 14 cs (m:Int),.dl j4,.zl [.r 1,.r 3],.zl [.r 8,.r 10],.dl j7,.dl (va.map .int),.dl j9,.dl (vb.map .int),.dl j11,.dl j12,.dl (us.map .int),.dl (vb.map .int),.dl (va.map .int)]) ?_ ?_
 . unfold IF2;walk_at"s";rw [show [115,116,97,116,101]=STA from rfl]
   by_cases ea:a=STA
   . obtain ⟨ws,lw,rfl⟩:=ha ea;rw [if_pos ea];walk_at"s";refine X9 (xs:=[_,_]) (V0 (a:=ws) (by omega)) ?_;walk_at"s"
     first | done | exact ⟨rfl,rfl⟩
   . rw [if_neg ea];walk_at"s"
     first | done | exact ⟨rfl,rfl⟩
 rintro s h ⟨rfl,rfl⟩;walk_at"s";rw [po];walk_at"s";rw [show atZ [Z.r 1,Z.r 3] (4 % 2)=some (.r 1) from rfl];walk_at"s";rw [O2,show (some X2).bind mtCells_trial=some M_Cells_trial from rfl];walk_at"s";refine U4 (zs':=[.r 0]) (h0:=[cR 1 cs (m:Int),.dl (va.map .int)]) [1,15] rfl rfl rfl rfl ?_;rw [R8,wp_ok];rw [show Q9 [1,15] [.dl d7,cR 15 cs (m:Int),.dl j2,cR 14 cs (m:Int),.dl j4,.zl [.r 1,.r 3],.zl [.r 8,.r 10],.dl j7,.dl (va.map .int),.dl j9,.dl (vb.map .int),.dl j11,.dl j12,.dl (us.map .int),.dl (vb.map .int),.dl (va.map .int)] [cR 1 cs (m:Int),.dl (va.map .int),.ins Q5 [(f_cells,.r 0),(f_saved,.d (.lst []))]]=[.dl d7,cR 15 cs (m:Int),.dl j2,cR 14 cs (m:Int),.dl j4,.zl [.r 1,.r 3],.zl [.r 8,.r 10],.dl j7,.dl (va.map .int),.dl j9,.dl (vb.map .int),.dl j11,.dl j12,.dl (us.map .int),.dl (vb.map .int),.dl (va.map .int),.ins Q5 [(f_cells,.r 1),(f_saved,.d (.lst []))]] from rfl,show unZ [1,15] [.dl d7,cR 15 cs (m:Int),.dl j2,cR 14 cs (m:Int),.dl j4,.zl [.r 1,.r 3],.zl [.r 8,.r 10],.dl j7,.dl (va.map .int),.dl j9,.dl (vb.map .int),.dl j11,.dl j12,.dl (us.map .int),.dl (vb.map .int),.dl (va.map .int)].length (.r 2) = .r 16 from rfl];walk_at"s";rw [show ∀ h,QD1 false (.r 16) (.d .non) h = .ok (.d (.bl false)) h from fun _=>rfl];walk_at"s";refine ⟨R9 (by decide) (by decide),?_⟩;rw [show H9 0 2=[.d (.int 0),.d (.int 1)] from rfl];refine Y4 ?_;walk_at"s";rw [show atZ [Z.r 1,Z.r 3] 0=some (.r 1) from rfl];walk_at"s";rw [O2,show (some X2).bind mtP_contents=some M_Cells_contents_get from rfl];walk_at"s";refine U4 (zs':=[.r 0]) (h0:=[cR 1 cs (m:Int),.dl (va.map .int)]) [1,15] rfl rfl rfl rfl ?_;rw [Z0,wp_ok];rw [show Q9 [1,15] [.dl d7,cR 15 cs (m:Int),.dl j2,cR 14 cs (m:Int),.dl j4,.zl [.r 1,.r 3],.zl [.r 8,.r 10],.dl j7,.dl (va.map .int),.dl j9,.dl (vb.map .int),.dl j11,.dl j12,.dl (us.map .int),.dl (vb.map .int),.dl (va.map .int),.ins Q5 [(f_cells,.r 1),(f_saved,.d (.lst []))]] [cR 1 cs (m:Int),.dl (va.map .int)]=[.dl d7,cR 15 cs (m:Int),.dl j2,cR 14 cs (m:Int),.dl j4,.zl [.r 1,.r 3],.zl [.r 8,.r 10],.dl j7,.dl (va.map .int),.dl j9,.dl (vb.map .int),.dl j11,.dl j12,.dl (us.map .int),.dl (vb.map .int),.dl (va.map .int),.ins Q5 [(f_cells,.r 1),(f_saved,.d (.lst []))]] from rfl,show ∀ n d,unZ [1,15] n (.d d) = .d d from fun _ _=>rfl];walk_at"s";rw [show atZ [Z.r 8,Z.r 10] 0=some (.r 8) from rfl];walk_at"s";refine X9 (xs:=[_,_]) (V0 (a:=va) (by omega)) ?_;walk_at"s";rw [show gcS 17 (OutS.nx [some (.d y0),some (.r 0),some (.d (.lst (cs.map .str))),some (.d (.int (m:Int))),some (.r 5),some (.r 6),none,none,none,some (.d (.int 4)),some (.d (.lst (chs.map chD))),some (.d (.tup (.str a::r))),some (.d (.lst (chs.map chD))),some (.d (.tup (.str a::r))),none,none] [.dl d7,cR 15 cs (m:Int),.dl j2,cR 14 cs (m:Int),.dl j4,.zl [.r 1,.r 3],.zl [.r 8,.r 10],.dl j7,.dl (va.map .int),.dl j9,.dl (vb.map .int),.dl j11,.dl j12,.dl (us.map .int),.dl (vb.map .int),.dl (va.map .int),.ins Q5 [(f_cells,.r 1),(f_saved,.d (.lst []))]]) = .nx [some (.d y0),some (.r 0),some (.d (.lst (cs.map .str))),some (.d (.int (m:Int))),some (.r 5),some (.r 6),none,none,none,some (.d (.int 4)),some (.d (.lst (chs.map chD))),some (.d (.tup (.str a::r))),some (.d (.lst (chs.map chD))),some (.d (.tup (.str a::r))),none,none] [.dl d7,cR 15 cs (m:Int),.dl j2,cR 14 cs (m:Int),.dl j4,.zl [.r 1,.r 3],.zl [.r 8,.r 10],.dl j7,.dl (va.map .int),.dl j9,.dl (vb.map .int),.dl j11,.dl j12,.dl (us.map .int),.dl (vb.map .int),.dl (va.map .int),.ins Q5 [(f_cells,.r 1),(f_saved,.d (.lst []))]] from rfl];walk_at"s";refine Y4 ?_;walk_at"s";rw [show atZ [Z.r 1,Z.r 3] 1=some (.r 3) from rfl];walk_at"s";rw [O3,show (some X2).bind mtP_contents=some M_Cells_contents_get from rfl];walk_at"s";refine U4 (zs':=[.r 0]) (h0:=[cR 1 cs (m:Int),.dl (vb.map .int)]) [3,14] rfl rfl rfl rfl ?_;rw [Z0,wp_ok];rw [show Q9 [3,14] [.dl d7,cR 15 cs (m:Int),.dl j2,cR 14 cs (m:Int),.dl j4,.zl [.r 1,.r 3],.zl [.r 8,.r 10],.dl j7,.dl (va.map .int),.dl j9,.dl (vb.map .int),.dl j11,.dl j12,.dl (us.map .int),.dl (vb.map .int),.dl (va.map .int),.ins Q5 [(f_cells,.r 1),(f_saved,.d (.lst []))]] [cR 1 cs (m:Int),.dl (vb.map .int)]=[.dl d7,cR 15 cs (m:Int),.dl j2,cR 14 cs (m:Int),.dl j4,.zl [.r 1,.r 3],.zl [.r 8,.r 10],.dl j7,.dl (va.map .int),.dl j9,.dl (vb.map .int),.dl j11,.dl j12,.dl (us.map .int),.dl (vb.map .int),.dl (va.map .int),.ins Q5 [(f_cells,.r 1),(f_saved,.d (.lst []))]] from rfl,show ∀ n d,unZ [3,14] n (.d d) = .d d from fun _ _=>rfl];walk_at"s";rw [show atZ [Z.r 8,Z.r 10] 1=some (.r 10) from rfl];walk_at"s";refine X9 (xs:=[_,_]) (V0 (a:=vb) (by omega)) ?_;walk_at"s";rw [show gcS 17 (OutS.nx [some (.d y0),some (.r 0),some (.d (.lst (cs.map .str))),some (.d (.int (m:Int))),some (.r 5),some (.r 6),none,none,none,some (.d (.int 4)),some (.d (.lst (chs.map chD))),some (.d (.tup (.str a::r))),some (.d (.lst (chs.map chD))),some (.d (.tup (.str a::r))),none,none] [.dl d7,cR 15 cs (m:Int),.dl j2,cR 14 cs (m:Int),.dl j4,.zl [.r 1,.r 3],.zl [.r 8,.r 10],.dl j7,.dl (va.map .int),.dl j9,.dl (vb.map .int),.dl j11,.dl j12,.dl (us.map .int),.dl (vb.map .int),.dl (va.map .int),.ins Q5 [(f_cells,.r 1),(f_saved,.d (.lst []))]]) = .nx [some (.d y0),some (.r 0),some (.d (.lst (cs.map .str))),some (.d (.int (m:Int))),some (.r 5),some (.r 6),none,none,none,some (.d (.int 4)),some (.d (.lst (chs.map chD))),some (.d (.tup (.str a::r))),some (.d (.lst (chs.map chD))),some (.d (.tup (.str a::r))),none,none] [.dl d7,cR 15 cs (m:Int),.dl j2,cR 14 cs (m:Int),.dl j4,.zl [.r 1,.r 3],.zl [.r 8,.r 10],.dl j7,.dl (va.map .int),.dl j9,.dl (vb.map .int),.dl j11,.dl j12,.dl (us.map .int),.dl (vb.map .int),.dl (va.map .int),.ins Q5 [(f_cells,.r 1),(f_saved,.d (.lst []))]] from rfl];walk_at"s";refine P1 ?_;walk_at"s";rw [Xq5];refine V2 rfl i7 (by omega) fun q d8 i8 q0 q1=>?_;obtain ⟨k,rfl⟩:∃ k:Nat,q=k:=⟨q.toNat,by omega⟩;have hk:k<cs.length:=by omega
 walk_at"s";refine V2 rfl i8 (by omega) fun x d9 i9 x0 x1=>?_;walk_at"s";rw [show atZ [Z.r 8,Z.r 10] (4 % 2)=some (.r 8) from rfl];walk_at"s";rw [F7 (by omega) (by rw [Xq5]; omega),Int.toNat_natCast,optP_some,<- List.map_set];have nv:Qh1 cs va cs[k] x=va.set k x:=by unfold Qh1; rw [hc.1.idxOf_getElem k hk]
 have cg:=D0 (cs:=cs) (n:=(m:Int)) (vs:=va) (c:=cs[k]) (v:=x) lva;rw [nv] at cg;have lw:(va.set k x).length=cs.length:=by rw [List.length_set]; exact lva
 have gw:(va.set k x)[k]? = some x:=by rw [Xr3 (by omega)]
 generalize va.set k x=w at *;walk_at"s";rw [show atZ [Z.r 1,Z.r 3] (4 % 2)=some (.r 1) from rfl];walk_at"s";rw [O2,show (some X2).bind mtCells_change=some M_Cells_change from rfl];walk_at"s";rw [show atD (cs.map D.str) (k:Int)=some (.str cs[k]) by rw [Zl.at_nat,Xq7,Xq6 hk]; rfl];walk_at"s";rw [show atZ [Z.r 8,Z.r 10] (4 % 2)=some (.r 8) from rfl];walk_at"s";rw [show atD (w.map D.int) (k:Int)=some (.int x) by rw [Zl.at_nat,Xq7,gw]; rfl];walk_at"s";refine U4 (zs':=[.r 0,.d _,.d _]) (h0:=[cR 1 cs (m:Int),.dl (va.map .int)]) [1,15] rfl rfl rfl rfl ?_;refine Out.wp_mono cg (fun z os hz=>?_) (fun x os hz=>?_)
 rotate_left
 . exact absurd hz.1 (by rw [Qw1 (List.getElem_mem _) ⟨x0,x1⟩]; simp)
 obtain ⟨_,rfl,rfl⟩:=hz;rw [show Q9 [1,15] [.dl d9,cR 15 cs (m:Int),.dl j2,cR 14 cs (m:Int),.dl j4,.zl [.r 1,.r 3],.zl [.r 8,.r 10],.dl j7,.dl (w.map .int),.dl j9,.dl (vb.map .int),.dl j11,.dl j12,.dl (us.map .int),.dl (vb.map .int),.dl (va.map .int),.ins Q5 [(f_cells,.r 1),(f_saved,.d (.lst []))]] [cR 1 cs (m:Int),.dl (w.map .int)]=[.dl d9,cR 15 cs (m:Int),.dl j2,cR 14 cs (m:Int),.dl j4,.zl [.r 1,.r 3],.zl [.r 8,.r 10],.dl j7,.dl (w.map .int),.dl j9,.dl (vb.map .int),.dl j11,.dl j12,.dl (us.map .int),.dl (vb.map .int),.dl (w.map .int),.ins Q5 [(f_cells,.r 1),(f_saved,.d (.lst []))]] from rfl];walk_at"s";rw [show atZ [Z.r 1,Z.r 3] (4 % 2)=some (.r 1) from rfl];walk_at"s";rw [O2,show (some X2).bind mtP_contents=some M_Cells_contents_get from rfl];walk_at"s";refine U4 (zs':=[.r 0]) (h0:=[cR 1 cs (m:Int),.dl (w.map .int)]) [1,15] rfl rfl rfl rfl ?_;rw [Z0,wp_ok];rw [show Q9 [1,15] [.dl d9,cR 15 cs (m:Int),.dl j2,cR 14 cs (m:Int),.dl j4,.zl [.r 1,.r 3],.zl [.r 8,.r 10],.dl j7,.dl (w.map .int),.dl j9,.dl (vb.map .int),.dl j11,.dl j12,.dl (us.map .int),.dl (vb.map .int),.dl (w.map .int),.ins Q5 [(f_cells,.r 1),(f_saved,.d (.lst []))]] [cR 1 cs (m:Int),.dl (w.map .int)]=[.dl d9,cR 15 cs (m:Int),.dl j2,cR 14 cs (m:Int),.dl j4,.zl [.r 1,.r 3],.zl [.r 8,.r 10],.dl j7,.dl (w.map .int),.dl j9,.dl (vb.map .int),.dl j11,.dl j12,.dl (us.map .int),.dl (vb.map .int),.dl (w.map .int),.ins Q5 [(f_cells,.r 1),(f_saved,.d (.lst []))]] from rfl,show ∀ n d,unZ [1,15] n (.d d) = .d d from fun _ _=>rfl];walk_at"s";rw [show atZ [Z.r 8,Z.r 10] (4 % 2)=some (.r 8) from rfl];walk_at"s";refine X9 (xs:=[_,_]) (V0 (a:=w) (by omega)) ?_;walk_at"s";rw [show gcS 15 (OutS.nx [some (.d y0),some (.r 0),some (.d (.lst (cs.map .str))),some (.d (.int (m:Int))),some (.r 5),some (.r 6),none,none,none,none,none,none,none,none,none,none] [.dl d9,cR 15 cs (m:Int),.dl j2,cR 14 cs (m:Int),.dl j4,.zl [.r 1,.r 3],.zl [.r 8,.r 10],.dl j7,.dl (w.map .int),.dl j9,.dl (vb.map .int),.dl j11,.dl j12,.dl (us.map .int),.dl (vb.map .int),.dl (w.map .int),.ins Q5 [(f_cells,.r 1),(f_saved,.d (.lst []))]]) = .nx [some (.d y0),some (.r 0),some (.d (.lst (cs.map .str))),some (.d (.int (m:Int))),some (.r 5),some (.r 6),none,none,none,none,none,none,none,none,none,none] [.dl d9,cR 15 cs (m:Int),.dl j2,cR 14 cs (m:Int),.dl j4,.zl [.r 1,.r 3],.zl [.r 8,.r 10],.dl j7,.dl (w.map .int),.dl j9,.dl (vb.map .int),.dl j11,.dl j12,.dl (us.map .int),.dl (vb.map .int),.dl (w.map .int)] from rfl];walk_at"s";exact ⟨d9,us.map .int,w,i9,lw,rfl⟩
theorem Xb3 {y0:D} {cs:List (List Nat)} {m:Nat} {e:List D} {va vb:List Int} {j2 j4 j7 j9 j11 j12 j13:List D} (hc:H5 cs) (hne:cs≠[]) (l3:cs.length<=3) (hm3:1<=m/\m<=3) (ie:Ints e) (lva:va.length=cs.length) (lvb:vb.length=cs.length) :
   (QB9 [some (.d y0),some (.r 0),some (.d (.lst (cs.map .str))),some (.d (.int (m:Int))),some (.r 5),some (.r 6),none,none,none,some (.d (.int 5)),none,none,none,none,none,none] [.dl e,cR 15 cs (m:Int),.dl j2,cR 14 cs (m:Int),.dl j4,.zl [.r 1,.r 3],.zl [.r 8,.r 10],.dl j7,.dl (va.map .int),.dl j9,.dl (vb.map .int),.dl j11,.dl j12,.dl j13,.dl (vb.map .int),.dl (va.map .int)]).wp ⟨fun s h=>∃ (e2 u:List D) (w:List Int),Ints e2/\w.length=cs.length/\s=[some (.d y0),some (.r 0),some (.d (.lst (cs.map .str))),some (.d (.int (m:Int))),some (.r 5),some (.r 6),none,none,none,none,none,none,none,none,none,none]/\h=[.dl e2,cR 15 cs (m:Int),.dl j2,cR 16 cs (m:Int),.dl j4,.zl [.r 1,.r 3],.zl [.r 8,.r 10],.dl j7,.dl (va.map .int),.dl j9,.dl (w.map .int),.dl j11,.dl j12,.dl j13,.dl u,.dl (va.map .int),.dl (w.map .int)],fun _ _=>False,fun _ _=>False,fun _ _=>False,fun _ _ _=>False⟩:=by
 have l0:0<cs.length:=List.length_pos_iff.mpr hne;unfold QB9;walk_at"s";obtain ⟨chs,d7,l7,i7,e7⟩:=B2 (m:=m) hc hne l3 hm3 ie;refine Qf3 (zs':=[.r 0,.d _,.d _]) (h0:=[.dl _]) [0] rfl rfl rfl rfl e7 rfl rfl ?_;walk_at"s";rw [show atZ [Z.r 8,Z.r 10] (5 % 2)=some (.r 10) from rfl];walk_at"s";refine Qf3 (zs':=[.d _,.d _,.r 0,.d _]) (h0:=[.dl _]) [10] rfl rfl rfl rfl (Qd0 lvb l3) rfl rfl ?_;walk_at"s";rw [show atZ [Z.r 1,Z.r 3] (5 % 2)=some (.r 3) from rfl];walk_at"s";refine U4 (zs':=[.r 0,.d _]) (h0:=[cR 1 cs m,.dl (vb.map .int)]) [3,14] rfl rfl rfl rfl ?_;rw [O6 lvb,wp_ok];obtain ⟨a,r,eo,po,ha⟩:=D2 (cs:=cs) (n:=(m:Int)) (vs:=vb) (chs:=chs) (by omega);rw [eo];generalize (T3 cs (m:Int) vb chs).2=us;rw [show Q9 [3,14] [.dl d7,cR 15 cs (m:Int),.dl j2,cR 14 cs (m:Int),.dl j4,.zl [.r 1,.r 3],.zl [.r 8,.r 10],.dl j7,.dl (va.map .int),.dl j9,.dl (vb.map .int),.dl j11,.dl j12,.dl j13,.dl (vb.map .int),.dl (va.map .int)] [cR 2 cs (m:Int),.dl (us.map .int),.dl (vb.map .int)]=[.dl d7,cR 15 cs (m:Int),.dl j2,cR 16 cs (m:Int),.dl j4,.zl [.r 1,.r 3],.zl [.r 8,.r 10],.dl j7,.dl (va.map .int),.dl j9,.dl (vb.map .int),.dl j11,.dl j12,.dl j13,.dl (us.map .int),.dl (va.map .int),.dl (vb.map .int)] from rfl,show ∀ n d,unZ [3,14] n (.d d) = .d d from fun _ _=>rfl];walk_at"s";rw [Qd1];walk_at"s";refine QB8 (fun s h=>s=[some (.d y0),some (.r 0),some (.d (.lst (cs.map .str))),some (.d (.int (m:Int))),some (.r 5),some (.r 6),none,none,none,some (.d (.int 5)),some (.d (.lst (chs.map chD))),some (.d (.tup (.str a::r))),some (.d (.lst (chs.map chD))),some (.d (.tup (.str a::r))),none,none]/\h=[.dl d7,cR 15 cs (m:Int),.dl j2,cR 16 cs (m:Int),.dl j4,.zl [.r 1,.r 3],.zl [.r 8,.r 10],.dl j7,.dl (va.map .int),.dl j9,.dl (vb.map .int),.dl j11,.dl j12,.dl j13,.dl (us.map .int),.dl (va.map .int),.dl (vb.map .int)]) ?_ ?_
 . unfold IF2;walk_at"s";rw [show [115,116,97,116,101]=STA from rfl]
   by_cases ea:a=STA
   . obtain ⟨ws,lw,rfl⟩:=ha ea;rw [if_pos ea];walk_at"s";refine X9 (xs:=[_,_]) (V0 (a:=ws) (by omega)) ?_;walk_at"s"
     first | done | exact ⟨rfl,rfl⟩
   . rw [if_neg ea];walk_at"s"
     first | done | exact ⟨rfl,rfl⟩
 rintro s h ⟨rfl,rfl⟩;walk_at"s";rw [po];walk_at"s";rw [show atZ [Z.r 1,Z.r 3] (5 % 2)=some (.r 3) from rfl];walk_at"s";rw [O3,show (some X2).bind mtCells_trial=some M_Cells_trial from rfl];walk_at"s";refine U4 (zs':=[.r 0]) (h0:=[cR 1 cs (m:Int),.dl (vb.map .int)]) [3,16] rfl rfl rfl rfl ?_;rw [R8,wp_ok];rw [show Q9 [3,16] [.dl d7,cR 15 cs (m:Int),.dl j2,cR 16 cs (m:Int),.dl j4,.zl [.r 1,.r 3],.zl [.r 8,.r 10],.dl j7,.dl (va.map .int),.dl j9,.dl (vb.map .int),.dl j11,.dl j12,.dl j13,.dl (us.map .int),.dl (va.map .int),.dl (vb.map .int)] [cR 1 cs (m:Int),.dl (vb.map .int),.ins Q5 [(f_cells,.r 0),(f_saved,.d (.lst []))]]=[.dl d7,cR 15 cs (m:Int),.dl j2,cR 16 cs (m:Int),.dl j4,.zl [.r 1,.r 3],.zl [.r 8,.r 10],.dl j7,.dl (va.map .int),.dl j9,.dl (vb.map .int),.dl j11,.dl j12,.dl j13,.dl (us.map .int),.dl (va.map .int),.dl (vb.map .int),.ins Q5 [(f_cells,.r 3),(f_saved,.d (.lst []))]] from rfl,show unZ [3,16] [.dl d7,cR 15 cs (m:Int),.dl j2,cR 16 cs (m:Int),.dl j4,.zl [.r 1,.r 3],.zl [.r 8,.r 10],.dl j7,.dl (va.map .int),.dl j9,.dl (vb.map .int),.dl j11,.dl j12,.dl j13,.dl (us.map .int),.dl (va.map .int),.dl (vb.map .int)].length (.r 2) = .r 17 from rfl];walk_at"s";rw [show ∀ h,QD1 false (.r 17) (.d .non) h = .ok (.d (.bl false)) h from fun _=>rfl];walk_at"s";refine ⟨R9 (by decide) (by decide),?_⟩;rw [show H9 0 2=[.d (.int 0),.d (.int 1)] from rfl];refine Y4 ?_;walk_at"s";rw [show atZ [Z.r 1,Z.r 3] 0=some (.r 1) from rfl];walk_at"s";rw [O2,show (some X2).bind mtP_contents=some M_Cells_contents_get from rfl];walk_at"s";refine U4 (zs':=[.r 0]) (h0:=[cR 1 cs (m:Int),.dl (va.map .int)]) [1,15] rfl rfl rfl rfl ?_;rw [Z0,wp_ok];rw [show Q9 [1,15] [.dl d7,cR 15 cs (m:Int),.dl j2,cR 16 cs (m:Int),.dl j4,.zl [.r 1,.r 3],.zl [.r 8,.r 10],.dl j7,.dl (va.map .int),.dl j9,.dl (vb.map .int),.dl j11,.dl j12,.dl j13,.dl (us.map .int),.dl (va.map .int),.dl (vb.map .int),.ins Q5 [(f_cells,.r 3),(f_saved,.d (.lst []))]] [cR 1 cs (m:Int),.dl (va.map .int)]=[.dl d7,cR 15 cs (m:Int),.dl j2,cR 16 cs (m:Int),.dl j4,.zl [.r 1,.r 3],.zl [.r 8,.r 10],.dl j7,.dl (va.map .int),.dl j9,.dl (vb.map .int),.dl j11,.dl j12,.dl j13,.dl (us.map .int),.dl (va.map .int),.dl (vb.map .int),.ins Q5 [(f_cells,.r 3),(f_saved,.d (.lst []))]] from rfl,show ∀ n d,unZ [1,15] n (.d d) = .d d from fun _ _=>rfl];walk_at"s";rw [show atZ [Z.r 8,Z.r 10] 0=some (.r 8) from rfl];walk_at"s";refine X9 (xs:=[_,_]) (V0 (a:=va) (by omega)) ?_;walk_at"s";rw [show gcS 18 (OutS.nx [some (.d y0),some (.r 0),some (.d (.lst (cs.map .str))),some (.d (.int (m:Int))),some (.r 5),some (.r 6),none,none,none,some (.d (.int 5)),some (.d (.lst (chs.map chD))),some (.d (.tup (.str a::r))),some (.d (.lst (chs.map chD))),some (.d (.tup (.str a::r))),none,none] [.dl d7,cR 15 cs (m:Int),.dl j2,cR 16 cs (m:Int),.dl j4,.zl [.r 1,.r 3],.zl [.r 8,.r 10],.dl j7,.dl (va.map .int),.dl j9,.dl (vb.map .int),.dl j11,.dl j12,.dl j13,.dl (us.map .int),.dl (va.map .int),.dl (vb.map .int),.ins Q5 [(f_cells,.r 3),(f_saved,.d (.lst []))]]) = .nx [some (.d y0),some (.r 0),some (.d (.lst (cs.map .str))),some (.d (.int (m:Int))),some (.r 5),some (.r 6),none,none,none,some (.d (.int 5)),some (.d (.lst (chs.map chD))),some (.d (.tup (.str a::r))),some (.d (.lst (chs.map chD))),some (.d (.tup (.str a::r))),none,none] [.dl d7,cR 15 cs (m:Int),.dl j2,cR 16 cs (m:Int),.dl j4,.zl [.r 1,.r 3],.zl [.r 8,.r 10],.dl j7,.dl (va.map .int),.dl j9,.dl (vb.map .int),.dl j11,.dl j12,.dl j13,.dl (us.map .int),.dl (va.map .int),.dl (vb.map .int),.ins Q5 [(f_cells,.r 3),(f_saved,.d (.lst []))]] from rfl];walk_at"s";refine Y4 ?_;walk_at"s";rw [show atZ [Z.r 1,Z.r 3] 1=some (.r 3) from rfl];walk_at"s";rw [O3,show (some X2).bind mtP_contents=some M_Cells_contents_get from rfl];walk_at"s";refine U4 (zs':=[.r 0]) (h0:=[cR 1 cs (m:Int),.dl (vb.map .int)]) [3,16] rfl rfl rfl rfl ?_;rw [Z0,wp_ok];rw [show Q9 [3,16] [.dl d7,cR 15 cs (m:Int),.dl j2,cR 16 cs (m:Int),.dl j4,.zl [.r 1,.r 3],.zl [.r 8,.r 10],.dl j7,.dl (va.map .int),.dl j9,.dl (vb.map .int),.dl j11,.dl j12,.dl j13,.dl (us.map .int),.dl (va.map .int),.dl (vb.map .int),.ins Q5 [(f_cells,.r 3),(f_saved,.d (.lst []))]] [cR 1 cs (m:Int),.dl (vb.map .int)]=[.dl d7,cR 15 cs (m:Int),.dl j2,cR 16 cs (m:Int),.dl j4,.zl [.r 1,.r 3],.zl [.r 8,.r 10],.dl j7,.dl (va.map .int),.dl j9,.dl (vb.map .int),.dl j11,.dl j12,.dl j13,.dl (us.map .int),.dl (va.map .int),.dl (vb.map .int),.ins Q5 [(f_cells,.r 3),(f_saved,.d (.lst []))]] from rfl,show ∀ n d,unZ [3,16] n (.d d) = .d d from fun _ _=>rfl];walk_at"s";rw [show atZ [Z.r 8,Z.r 10] 1=some (.r 10) from rfl];walk_at"s";refine X9 (xs:=[_,_]) (V0 (a:=vb) (by omega)) ?_;walk_at"s";rw [show gcS 18 (OutS.nx [some (.d y0),some (.r 0),some (.d (.lst (cs.map .str))),some (.d (.int (m:Int))),some (.r 5),some (.r 6),none,none,none,some (.d (.int 5)),some (.d (.lst (chs.map chD))),some (.d (.tup (.str a::r))),some (.d (.lst (chs.map chD))),some (.d (.tup (.str a::r))),none,none] [.dl d7,cR 15 cs (m:Int),.dl j2,cR 16 cs (m:Int),.dl j4,.zl [.r 1,.r 3],.zl [.r 8,.r 10],.dl j7,.dl (va.map .int),.dl j9,.dl (vb.map .int),.dl j11,.dl j12,.dl j13,.dl (us.map .int),.dl (va.map .int),.dl (vb.map .int),.ins Q5 [(f_cells,.r 3),(f_saved,.d (.lst []))]]) = .nx [some (.d y0),some (.r 0),some (.d (.lst (cs.map .str))),some (.d (.int (m:Int))),some (.r 5),some (.r 6),none,none,none,some (.d (.int 5)),some (.d (.lst (chs.map chD))),some (.d (.tup (.str a::r))),some (.d (.lst (chs.map chD))),some (.d (.tup (.str a::r))),none,none] [.dl d7,cR 15 cs (m:Int),.dl j2,cR 16 cs (m:Int),.dl j4,.zl [.r 1,.r 3],.zl [.r 8,.r 10],.dl j7,.dl (va.map .int),.dl j9,.dl (vb.map .int),.dl j11,.dl j12,.dl j13,.dl (us.map .int),.dl (va.map .int),.dl (vb.map .int),.ins Q5 [(f_cells,.r 3),(f_saved,.d (.lst []))]] from rfl];walk_at"s";refine P1 ?_;walk_at"s";rw [Xq5];refine V2 rfl i7 (by omega) fun q d8 i8 q0 q1=>?_;obtain ⟨k,rfl⟩:∃ k:Nat,q=k:=⟨q.toNat,by omega⟩;have hk:k<cs.length:=by omega
 walk_at"s";refine V2 rfl i8 (by omega) fun x d9 i9 x0 x1=>?_;walk_at"s";rw [show atZ [Z.r 8,Z.r 10] (5 % 2)=some (.r 10) from rfl];walk_at"s";rw [F7 (by omega) (by rw [Xq5]; omega),Int.toNat_natCast,optP_some,<- List.map_set];have nv:Qh1 cs vb cs[k] x=vb.set k x:=by unfold Qh1; rw [hc.1.idxOf_getElem k hk]
 have cg:=D0 (cs:=cs) (n:=(m:Int)) (vs:=vb) (c:=cs[k]) (v:=x) lvb;rw [nv] at cg;have lw:(vb.set k x).length=cs.length:=by rw [List.length_set]; exact lvb
 have gw:(vb.set k x)[k]? = some x:=by rw [Xr3 (by omega)]
 generalize vb.set k x=w at *;walk_at"s";rw [show atZ [Z.r 1,Z.r 3] (5 % 2)=some (.r 3) from rfl];walk_at"s";rw [O3,show (some X2).bind mtCells_change=some M_Cells_change from rfl];walk_at"s";rw [show atD (cs.map D.str) (k:Int)=some (.str cs[k]) by rw [Zl.at_nat,Xq7,Xq6 hk]; rfl];walk_at"s";rw [show atZ [Z.r 8,Z.r 10] (5 % 2)=some (.r 10) from rfl];walk_at"s";rw [show atD (w.map D.int) (k:Int)=some (.int x) by rw [Zl.at_nat,Xq7,gw]; rfl];walk_at"s";refine U4 (zs':=[.r 0,.d _,.d _]) (h0:=[cR 1 cs (m:Int),.dl (vb.map .int)]) [3,16] rfl rfl rfl rfl ?_;refine Out.wp_mono cg (fun z os hz=>?_) (fun x os hz=>?_)
 rotate_left
 . exact absurd hz.1 (by rw [Qw1 (List.getElem_mem _) ⟨x0,x1⟩]; simp)
 obtain ⟨_,rfl,rfl⟩:=hz;rw [show Q9 [3,16] [.dl d9,cR 15 cs (m:Int),.dl j2,cR 16 cs (m:Int),.dl j4,.zl [.r 1,.r 3],.zl [.r 8,.r 10],.dl j7,.dl (va.map .int),.dl j9,.dl (w.map .int),.dl j11,.dl j12,.dl j13,.dl (us.map .int),.dl (va.map .int),.dl (vb.map .int),.ins Q5 [(f_cells,.r 3),(f_saved,.d (.lst []))]] [cR 1 cs (m:Int),.dl (w.map .int)]=[.dl d9,cR 15 cs (m:Int),.dl j2,cR 16 cs (m:Int),.dl j4,.zl [.r 1,.r 3],.zl [.r 8,.r 10],.dl j7,.dl (va.map .int),.dl j9,.dl (w.map .int),.dl j11,.dl j12,.dl j13,.dl (us.map .int),.dl (va.map .int),.dl (w.map .int),.ins Q5 [(f_cells,.r 3),(f_saved,.d (.lst []))]] from rfl];walk_at"s";rw [show atZ [Z.r 1,Z.r 3] (5 % 2)=some (.r 3) from rfl];walk_at"s";rw [O3,show (some X2).bind mtP_contents=some M_Cells_contents_get from rfl];walk_at"s";refine U4 (zs':=[.r 0]) (h0:=[cR 1 cs (m:Int),.dl (w.map .int)]) [3,16] rfl rfl rfl rfl ?_;rw [Z0,wp_ok];rw [show Q9 [3,16] [.dl d9,cR 15 cs (m:Int),.dl j2,cR 16 cs (m:Int),.dl j4,.zl [.r 1,.r 3],.zl [.r 8,.r 10],.dl j7,.dl (va.map .int),.dl j9,.dl (w.map .int),.dl j11,.dl j12,.dl j13,.dl (us.map .int),.dl (va.map .int),.dl (w.map .int),.ins Q5 [(f_cells,.r 3),(f_saved,.d (.lst []))]] [cR 1 cs (m:Int),.dl (w.map .int)]=[.dl d9,cR 15 cs (m:Int),.dl j2,cR 16 cs (m:Int),.dl j4,.zl [.r 1,.r 3],.zl [.r 8,.r 10],.dl j7,.dl (va.map .int),.dl j9,.dl (w.map .int),.dl j11,.dl j12,.dl j13,.dl (us.map .int),.dl (va.map .int),.dl (w.map .int),.ins Q5 [(f_cells,.r 3),(f_saved,.d (.lst []))]] from rfl,show ∀ n d,unZ [3,16] n (.d d) = .d d from fun _ _=>rfl];walk_at"s";rw [show atZ [Z.r 8,Z.r 10] (5 % 2)=some (.r 10) from rfl];walk_at"s";refine X9 (xs:=[_,_]) (V0 (a:=w) (by omega)) ?_;walk_at"s";rw [show gcS 16 (OutS.nx [some (.d y0),some (.r 0),some (.d (.lst (cs.map .str))),some (.d (.int (m:Int))),some (.r 5),some (.r 6),none,none,none,none,none,none,none,none,none,none] [.dl d9,cR 15 cs (m:Int),.dl j2,cR 16 cs (m:Int),.dl j4,.zl [.r 1,.r 3],.zl [.r 8,.r 10],.dl j7,.dl (va.map .int),.dl j9,.dl (w.map .int),.dl j11,.dl j12,.dl j13,.dl (us.map .int),.dl (va.map .int),.dl (w.map .int),.ins Q5 [(f_cells,.r 3),(f_saved,.d (.lst []))]]) = .nx [some (.d y0),some (.r 0),some (.d (.lst (cs.map .str))),some (.d (.int (m:Int))),some (.r 5),some (.r 6),none,none,none,none,none,none,none,none,none,none] [.dl d9,cR 15 cs (m:Int),.dl j2,cR 16 cs (m:Int),.dl j4,.zl [.r 1,.r 3],.zl [.r 8,.r 10],.dl j7,.dl (va.map .int),.dl j9,.dl (w.map .int),.dl j11,.dl j12,.dl j13,.dl (us.map .int),.dl (va.map .int),.dl (w.map .int)] from rfl];walk_at"s";exact ⟨d9,us.map .int,w,i9,lw,rfl⟩
theorem law_true (ns:List Int) (hn:ns.length<=63):∃ zh,M_law [.d (.scr (ns.map D.int))] [] = .ok (.d (.bl true)) zh:=by
 have w : (M_law [.d (.scr (ns.map D.int))] []).wp (fun z h=>z = .d (.bl true)) (fun _ _=>False):=by
   unfold M_law;rw [show D_law=O4 [0,1,2,3,4,5,6,7,8,9,10,11,12,13,14,15] (U9 (K7 (X7 M_law_pool (Q4 (Q7 0) (dNil))) (Z8 1)) (U9 (K7 (X7 M_law_names (Q4 (Q7 1) (Q4 (Y1 opIx (Qw5 (Q4 (dC (.int 2)) (Q4 (dC (.int 3)) (Q4 (dC (.int 1)) (dNil))))) (X7 M_law_draw (Q4 (Q7 1) (Q4 (dC (.int 3)) (dNil))))) (dNil)))) (Z8 2)) (U9 (K7 (Y1 opIx (Qw5 (Q4 (dC (.int 2)) (Q4 (dC (.int 3)) (Q4 (dC (.int 1)) (dNil))))) (X7 M_law_draw (Q4 (Q7 1) (Q4 (dC (.int 3)) (dNil))))) (Z8 3)) (U9 (K7 (Qt5 (Q4 (Qn2 true X2 M_Cells_init (Q4 (Y2 (I8 false) (Q4 (Q7 2) (dNil))) (Q4 (Q7 3) (dNil)))) (Q4 (Qn2 true X2 M_Cells_init (Q4 (Y2 (I8 false) (Q4 (Q7 2) (dNil))) (Q4 (Q7 3) (dNil)))) (dNil)))) (Z8 4)) (U9 (K7 (Qt5 (dNil)) (Z8 5)) (U9 (Qk2 (Qx6 (Q7 4)) (Z8 6) (O4 [6,7] (U9 (K7 (dLc .own (Qx6 (Q7 2)) 8 tYesZ (X7 M_law_draw (Q4 (Q7 1) (Q4 (Q7 3) (dNil))))) (Z8 7)) (U9 (D4 (S7 mtCells_reset (Q7 6) (Q4 (Y2 opTuple (Q4 (Q7 7) (dNil))) (dNil)))) (D4 (P6 isLst opAppend (Q7 5) (Q4 (Q7 7) (dNil)))))))) (U9 (Qk2 (K0 (Q4 (dC (.int 6)) (dNil))) (Z8 9) (QB9)) (L0 (dC (.bl true)))))))))) from rfl];walk_at"s";refine pool_w hn fun ds hd=>?_;walk_at"s";refine V2 rfl hd (by decide) fun v d2 i2 v0 v1=>?_;walk_at"s"
   have pick:∀ v:Int,0<=v->v<3 -> ∃ n:Nat,(1<=n/\n<=3)/\atD [.int 2,.int 3,.int 1] v=some (.int (n:Int)):=fun v v0 v1=>by
     have:v=0\/v=1\/v=2:=by omega
     rcases this with rfl | rfl | rfl
     . exact ⟨2,by decide,rfl⟩
     . exact ⟨3,by decide,rfl⟩
     . exact ⟨1,by decide,rfl⟩
   obtain ⟨n,hn3,en⟩:=pick v v0 v1;rw [en];walk_at"s";refine Xa0 rfl i2 (by omega) fun cs d3 lc hc i3=>?_;walk_at"s";refine V2 rfl i3 (by decide) fun u d4 i4 u0 u1=>?_;walk_at"s";obtain ⟨m,hm3,em⟩:=pick u u0 u1;rw [em];have hs9:∀ c∈cs,c.length<=1000000:=fun c h=>by have:=(hc.2 c h).2.1; omega
   have hne:cs≠[]:=by rintro rfl; simp at lc; omega
   have nb:F8 cs=true:=by
     unfold F8;rw [decide_eq_true (by omega),decide_eq_true hc.1,List.all_eq_true.mpr fun x hx=>vName_iff.mpr (hc.2 x hx)];rfl
   walk_at"s";have mk:=QQ2 (n:=(m:Int)) nb ⟨by omega,by omega⟩ (by omega) hs9;obtain ⟨zs0,ez⟩:∃ zs0:List Int,(List.replicate cs.length (0:Int))=zs0:=⟨_,rfl⟩;rw [ez] at mk;clear ez;obtain ⟨z0,ez⟩:∃ z0,zs0.map D.int=z0:=⟨_,rfl⟩;rw [ez] at mk;refine U4 (zs':=[.r 0,.d (.lst (cs.map .str)),.d (.int (m:Int))]) (h0:=[.ins X2 []]) [1] rfl rfl rfl rfl ?_;rw [mk,wp_ok];rw [show Q9 [1] [.dl d4,.ins X2 []] [cR 1 cs m,.dl z0]=[.dl d4,cR 2 cs m,.dl z0] from rfl,show ∀ n,unZ [1] n (.d .non) = .d .non from fun _=>rfl];refine ⟨rfl,?_⟩;rw [show ∀ h,Qz5 true X2 1 h = .ok (.r 1) h from fun _=>rfl,wp_ok];walk_at"s";refine U4 (zs':=[.r 0,.d (.lst (cs.map .str)),.d (.int (m:Int))]) (h0:=[.ins X2 []]) [3] rfl rfl rfl rfl ?_;rw [mk,wp_ok];rw [show Q9 [3] [.dl d4,cR 2 cs m,.dl z0,.ins X2 []] [cR 1 cs m,.dl z0]=[.dl d4,cR 2 cs m,.dl z0,cR 4 cs m,.dl z0] from rfl,show ∀ n,unZ [3] n (.d .non) = .d .non from fun _=>rfl];refine ⟨rfl,?_⟩;rw [show ∀ h,Qz5 true X2 3 h = .ok (.r 3) h from fun _=>rfl,wp_ok];walk_at"s";refine Y4 ?_;walk_at"s";refine lcW (fun k h acc=>∃ (va:List Int) (e:List D),Ints e/\va.length=k/\(∀ v∈va,0<=v/\v<(m:Int))/\h=[.dl e,cR 2 cs m,.dl z0,cR 4 cs m,.dl z0,.zl [.r 1,.r 3],.zl []]/\acc=(va.map .int).map .d) ⟨[],d4,i4,rfl,(fun v hv=>by cases hv),rfl,rfl⟩ ?_ ?_
   . rintro k z h acc hz ⟨va,e,ie,lv,hv,rfl,rfl⟩;rw [Xq7,Xq7] at hz
     have hk:k<cs.length:=by
       cases q:cs[k]? with
       | none=>rw [q] at hz; cases hz
       | some c=>exact (Xr0.mp q).1
     change (Out.ok true _).wp _ _;rw [wp_ok,if_pos rfl];walk_at"s";refine V2 rfl ie (by omega) fun x dd ii x0 x1=>?_
     try walk_at"s"
     refine ⟨by simp only [Xq5]; omega,va++[x],dd,ii,by simp; omega,fun v hv2=>?_,?_⟩
     . rcases List.mem_append.mp hv2 with hv2 | hv2
       . exact hv v hv2
       . rw [List.mem_singleton.mp hv2]; exact ⟨x0,x1⟩
     . first | simp | (refine ⟨rfl,?_⟩; simp)
   rintro h acc ⟨va,d5,id5,lva,hva,rfl,rfl⟩;rw [Xq5,Xq5] at lva;rw [QS3,wp_ok];walk_at"s";rw [O2,show (some X2).bind mtCells_reset=some M_Cells_reset from rfl];walk_at"s";refine U4 (zs':=[.r 0,.d (.tup (va.map .int))]) (h0:=[cR 1 cs m,.dl z0]) [1,2] rfl rfl rfl rfl ?_;rw [<- ez,Qs9 (by omega) lva hva,wp_ok];rw [ez];rw [show Q9 [1,2] [ZO.dl d5,cR 2 cs (m:Int),ZO.dl z0,cR 4 cs (m:Int),ZO.dl z0,ZO.zl [Z.r 1,Z.r 3],ZO.zl [],ZO.dl (va.map .int)] [cR 2 cs (m:Int),ZO.dl z0,ZO.dl (va.map .int)]=[ZO.dl d5,cR 8 cs (m:Int),ZO.dl z0,cR 4 cs (m:Int),ZO.dl z0,ZO.zl [Z.r 1,Z.r 3],ZO.zl [],ZO.dl (va.map .int),ZO.dl (va.map .int)] from rfl];walk_at"s";rw [show gcS 7 (OutS.nx [some (Z.d (D.scr (List.map D.int ns))),some (Z.r 0),some (Z.d (D.lst (List.map D.str cs))),some (Z.d (D.int (m:Int))),some (Z.r 5),some (Z.r 6),none,none,none,none,none,none,none,none,none,none] [ZO.dl d5,cR 8 cs (m:Int),ZO.dl z0,cR 4 cs (m:Int),ZO.dl z0,ZO.zl [Z.r 1,Z.r 3],ZO.zl [Z.r 7],ZO.dl (va.map .int),ZO.dl (va.map .int)]) = .nx [some (Z.d (D.scr (List.map D.int ns))),some (Z.r 0),some (Z.d (D.lst (List.map D.str cs))),some (Z.d (D.int (m:Int))),some (Z.r 5),some (Z.r 6),none,none,none,none,none,none,none,none,none,none] [ZO.dl d5,cR 7 cs (m:Int),ZO.dl z0,cR 4 cs (m:Int),ZO.dl z0,ZO.zl [Z.r 1,Z.r 3],ZO.zl [Z.r 8],ZO.dl (va.map .int),ZO.dl (va.map .int)] from rfl];walk_at"s";refine ⟨rfl,?_⟩;refine Y4 ?_;walk_at"s";refine lcW (fun k h acc=>∃ (vb:List Int) (e:List D),Ints e/\vb.length=k/\(∀ v∈vb,0<=v/\v<(m:Int))/\h=[.dl e,cR 7 cs m,.dl z0,cR 4 cs m,.dl z0,.zl [.r 1,.r 3],.zl [.r 8],.dl (va.map .int),.dl (va.map .int)]/\acc=(vb.map .int).map .d) ⟨[],d5,id5,rfl,(fun v hv=>by cases hv),rfl,rfl⟩ ?_ ?_
   . rintro k z h acc hz ⟨vb,e,ie,lv,hv,rfl,rfl⟩;rw [Xq7,Xq7] at hz
     have hk:k<cs.length:=by
       cases q:cs[k]? with
       | none=>rw [q] at hz; cases hz
       | some c=>exact (Xr0.mp q).1
     change (Out.ok true _).wp _ _;rw [wp_ok,if_pos rfl];walk_at"s";refine V2 rfl ie (by omega) fun x dd ii x0 x1=>?_
     try walk_at"s"
     refine ⟨by simp only [Xq5]; omega,vb++[x],dd,ii,by simp; omega,fun v hv2=>?_,?_⟩
     . rcases List.mem_append.mp hv2 with hv2 | hv2
       . exact hv v hv2
       . rw [List.mem_singleton.mp hv2]; exact ⟨x0,x1⟩
     . first | simp | (refine ⟨rfl,?_⟩; simp)
   rintro h acc ⟨vb,d6,id6,lvb,hvb,rfl,rfl⟩;rw [Xq5,Xq5] at lvb;rw [QS3,wp_ok];walk_at"s";rw [O3,show (some X2).bind mtCells_reset=some M_Cells_reset from rfl];walk_at"s";refine U4 (zs':=[.r 0,.d (.tup (vb.map .int))]) (h0:=[cR 1 cs m,.dl z0]) [3,4] rfl rfl rfl rfl ?_;rw [<- ez,Qs9 (by omega) lvb hvb,wp_ok];rw [ez];rw [show Q9 [3,4] [ZO.dl d6,cR 7 cs (m:Int),ZO.dl z0,cR 4 cs (m:Int),ZO.dl z0,ZO.zl [Z.r 1,Z.r 3],ZO.zl [Z.r 8],ZO.dl (va.map .int),ZO.dl (va.map .int),ZO.dl (vb.map .int)] [cR 2 cs (m:Int),ZO.dl z0,ZO.dl (vb.map .int)]=[ZO.dl d6,cR 7 cs (m:Int),ZO.dl z0,cR 10 cs (m:Int),ZO.dl z0,ZO.zl [Z.r 1,Z.r 3],ZO.zl [Z.r 8],ZO.dl (va.map .int),ZO.dl (va.map .int),ZO.dl (vb.map .int),ZO.dl (vb.map .int)] from rfl];walk_at"s";rw [show gcS 9 (OutS.nx [some (Z.d (D.scr (List.map D.int ns))),some (Z.r 0),some (Z.d (D.lst (List.map D.str cs))),some (Z.d (D.int (m:Int))),some (Z.r 5),some (Z.r 6),none,none,none,none,none,none,none,none,none,none] [ZO.dl d6,cR 7 cs (m:Int),ZO.dl z0,cR 10 cs (m:Int),ZO.dl z0,ZO.zl [Z.r 1,Z.r 3],ZO.zl [Z.r 8,Z.r 9],ZO.dl (va.map .int),ZO.dl (va.map .int),ZO.dl (vb.map .int),ZO.dl (vb.map .int)]) = .nx [some (Z.d (D.scr (List.map D.int ns))),some (Z.r 0),some (Z.d (D.lst (List.map D.str cs))),some (Z.d (D.int (m:Int))),some (Z.r 5),some (Z.r 6),none,none,none,none,none,none,none,none,none,none] [ZO.dl d6,cR 7 cs (m:Int),ZO.dl z0,cR 9 cs (m:Int),ZO.dl z0,ZO.zl [Z.r 1,Z.r 3],ZO.zl [Z.r 8,Z.r 10],ZO.dl (va.map .int),ZO.dl (va.map .int),ZO.dl (vb.map .int),ZO.dl (vb.map .int)] from rfl];walk_at"s";refine ⟨rfl,?_⟩;refine P1 ?_;walk_at"s";refine ⟨R9 (by decide) (by decide),?_⟩;rw [show H9 0 6=[.d (.int 0),.d (.int 1),.d (.int 2),.d (.int 3),.d (.int 4),.d (.int 5)] from rfl];refine Y4 ?_;walk_at"s";refine QB8 _ (Xa8 hc hne (by omega) hm3 id6 lva lvb) ?_;rintro s h ⟨e0,u0,w0,ie0,lw0,rfl,rfl⟩
   first | refine ⟨trivial,?_⟩ | walk_at"s"
   refine Y4 ?_;walk_at"s";refine QB8 _ (Xa9 hc hne (by omega) hm3 ie0 lw0 lvb) ?_;rintro s h ⟨e1,u1,w1,ie1,lw1,rfl,rfl⟩
   first | refine ⟨trivial,?_⟩ | walk_at"s"
   refine Y4 ?_;walk_at"s";refine QB8 _ (Xb0 hc hne (by omega) hm3 ie1 lw0 lw1) ?_;rintro s h ⟨e2,u2,w2,ie2,lw2,rfl,rfl⟩
   first | refine ⟨trivial,?_⟩ | walk_at"s"
   refine Y4 ?_;walk_at"s";refine QB8 _ (Xb1 hc hne (by omega) hm3 ie2 lw2 lw1) ?_;rintro s h ⟨e3,u3,w3,ie3,lw3,rfl,rfl⟩
   first | refine ⟨trivial,?_⟩ | walk_at"s"
   refine Y4 ?_;walk_at"s";refine QB8 _ (Xb2 hc hne (by omega) hm3 ie3 lw2 lw3) ?_;rintro s h ⟨e4,u4,w4,ie4,lw4,rfl,rfl⟩
   first | refine ⟨trivial,?_⟩ | walk_at"s"
   refine Y4 ?_;walk_at"s";refine QB8 _ (Xb3 hc hne (by omega) hm3 ie4 lw4 lw3) ?_;rintro s h ⟨e5,u5,w5,ie5,lw5,rfl,rfl⟩
   first | refine ⟨trivial,?_⟩ | walk_at"s"
   refine P1 ?_;walk_at"z"
 obtain ⟨z,h,e,rfl⟩:=Qu8 w;exact ⟨h,e⟩
end
end Zl
end
end
end
open PySem PySem.W PySem.Calls PyProof.Rows
theorem PySem.Challenge.cw_untoldrule_k04_whole_trials_holds : PySem.Challenge.rw_untoldrule_k04_whole_trials.Holds := by
 exact Zl.finL fun ns hn=>Zl.law_true ns hn
