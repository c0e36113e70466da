import PyProof.Rows.All
import HandS.Head0
import HandS.Head1
import HandS.Head2
import HandS.HeadHook1
import HandS.HeadHook2
import HandS.HeadHook3
import HandS.HeadHook4
import HandS.HeadWalk
import HandS.Words
import HandS.Defaults
import Wide.All
import OpenK.AllK
import Wide.FinOn
import PyProof.EqAt
import PyProof.EqKinds
import PyProof.TupleCall
import KE.KOpsOwn
import HandS.ForMost
import HandS.More
import HandS.Conv
import HandS.Walk
import HandS.Wide
import HandS.Star
import HandS.Codes
import HandS.Property
import HandS.DictComp
import HandS.IsInst
import HandS.Deep
import HandS.EndBits
import HandS.ClsMeth
import KE.GoesMore
import KE.IntBitsLaws
import KE.KExcSuper
import HandS.ExcInit
import HandS.ExcField
import HandS.TryMany
import HandS.TryOnly
import HandS.Nested
import HandS.Lambda
import HandS.EndTab
import KE.KNestM
import HandS.Style
import HandS.Strs
import KE.KParD
import HandS.Zip
import HandS.FStrTup
import KE.DatumOrd
import PyProof.ReprRoads
import PyProof.FitsInt
import OpenK.KMore
import KE.KExcIs
import HandS.MakeKwOnly
import HandS.ExcOwn
import HandS.StrMore
import HandS.TupAny
import KE.KCallOwn
import HandS.FStr
import PySem.Challenge.RW_sidelists_k04_scopes_and_names
set_option Elab.async false
set_option linter.all false
set_option maxRecDepth 100000
set_option maxHeartbeats 4000000
namespace HdZ
open PySem PySem.Spec PyProof.Rows L2 He
section
variable {K:PySem.W.Frag} {C a:Addr}
def oexB (K:PySem.W.Frag) (C:Addr):Bool:=match K.lookup C with
 | some ⟨.type "type",_,.cls cd,sl⟩=>(match cd.mro,sl.toList with
  | .ref C' :: bm,[_,_,_,_,some (.builtin n),_]=>C' == C && n == "ValueError.__new__" && !cd.hasDel && PySem.HandSPX.refsVE bm && cd.hasDict
  | _,_=>false)
 | _=>false
theorem oexB_ok (q:oexB K C=true):∃ nm q N bs bm sn sub ab col dd k0 k1 k2 k3 k5,K.lookup C=some (excClassObj nm q C N bs bm true sn sub ab col dd k0 k1 k2 k3 k5 "ValueError.__new__")∧PySem.HandSPX.refsVE bm=true:=by
 unfold oexB at q
 split at q
 ·rename_i dd cd sl ho
  split at q
  ·rename_i C' bm k0 k1 k2 k3 n k5 hm hs
   simp only [Bool.and_eq_true,beq_iff_eq,Bool.not_eq_true'] at q
   obtain ⟨⟨⟨⟨rfl,rfl⟩,hdel⟩,ht⟩,hdc⟩:=q
   obtain ⟨nm,bs,mro,ns,qn,hd,sn,sub,ab,col,del⟩:=cd
   dsimp only at hm hdel hdc
   subst hm hdel hdc
   have hsl:sl = #[k0,k1,k2,k3,some (.builtin "ValueError.__new__"),k5]:=by
    obtain ⟨l⟩:=sl
    simp only at hs
    rw [hs]
   subst hsl
   exact ⟨nm,qn,ns,bs,bm,sn,sub,ab,col,dd,k0,k1,k2,k3,k5,ho,ht⟩
  ·cases q
 ·cases q
def etB (K:PySem.W.Frag) (a:Addr):Bool:=match K.lookup a with
 | some ⟨.type c,_,.seq its _,_⟩=>decide (c = "tuple") && decide (its = #[])
 | _=>false
theorem etB_ok (h:etB K a=true) (H:Hp):SqT K H a []:=by
 unfold etB at h
 split at h
 ·rename_i c d its n sl ho
  obtain ⟨h1,h2⟩:=ba h
  have h1:=of_decide_eq_true h1
  have h2:=of_decide_eq_true h2
  subst h1 h2
  exact .inr ⟨_,#[],_,ho,rfl,rfl,Nat.zero_le _,.nil⟩
 ·cases h
def pgA (K:PySem.W.Frag) (C:Addr) (m:Str):Addr:=match PySem.W.recIn K (ma K C m) "property" with
 | some (.ref g :: _)=>g
 | _=>0
abbrev FnZ:Type:=Option (Str × Str × Arguments × FuncBody × Scope × Addr × List Str × Addr)
abbrev XsD:Type:=Str × Str × Stmt × Option Str
def fnV (nm qual:Str) (st:Stmt) (cl:List Str):FnZ:=some (nm,qual,defArgs st,FuncBody.stmts (defBody st),defScope st,mainGlobals,cl,builtinsNs)
def fnZv (x:XsD):FnZ:=match x.2.2.2 with
 | none=>fnV "__init__" x.2.1 x.2.2.1 [("__class__" : Str)]
 | some m=>fnV m x.2.1 x.2.2.1 []
def xAd (K:PySem.W.Frag) (x:XsD):Addr:=match x.2.2.2 with
 | none=>ma K (ga K x.1) "__init__"
 | some m=>pgA K (ga K x.1) m
def fnZ (K:PySem.W.Frag) (g:Addr):FnZ:=match K.lookup g with
 | some ⟨_,_,.func fd,_⟩=>some (fd.name,fd.qualname,fd.params,fd.body,fd.scope,fd.globals,fd.closure.map Prod.fst,fd.builtins)
 | _=>none
def iniB (K:PySem.W.Frag) (C:Addr) (file qual:Str):Bool:=match K.lookup (ma K C "__init__") with
 | some ⟨_,_,.func fd,_⟩=>(match fd.defaults with | .none=>true | _=>false) && (PySem.W.codeIn K fd.code qual && ((match fd.code with
   | .ref q=>(match K.lookup q with
    | some ⟨_,_,.fields vs,_⟩=>(match (vs[2]? : Option Value) with | some (.str f _)=>file == f | _=>false)
    | _=>false)
   | _=>false) && (match fd.closure with
   | [(_,cc)]=>(match K.lookup cc with
    | some ⟨_,_,.cell (some (.ref C')),_⟩=>C' == C
    | _=>false)
   | _=>false)))
 | _=>false
end
theorem meth_a {K:PySem.W.Frag} {x m:Str} (c:(Fa.meth x m).ok K=true):PySem.W.findIn K (.ref (ga K x)) m=some (some (.ref (ma K (ga K x) m))):=eqO_ok (ba c).1
theorem meth_i {K:PySem.W.Frag} {x m:Str} (c:(Fa.meth x m).ok K=true):PySem.W.isFn K (.ref (ma K (ga K x) m))=true:=(ba (ba c).2).1
theorem mkr_m {K:PySem.W.Frag} {x:Str} (c:(Fa.mkr x).ok K=true):PySem.W.makesIn K (ga K x)=true:=(ba c).1
theorem mkr_k {K:PySem.W.Frag} {x:Str} (c:(Fa.mkr x).ok K=true):PySem.W.keepIn K (.ref (ga K x))=true:=(ba (ba (ba c).2).2).2
theorem exAt {l:List Bool} (h:l.all id=true) (i:Nat) {b:Bool} (e:l[i]? = some b):b=true:=List.all_eq_true.mp h b (List.mem_of_getElem? e)
theorem fun_of {K:PySem.W.Frag} {x qual:Str} {st:Stmt} {f:Addr} {fd:FuncData} (F:FunD K x qual (defArgs st) (defBody st) (defScope st) [] [] f fd):Fun K x qual st f fd:=by
 obtain ⟨⟨oc,od,dV,kV,doc,pm,an,cdv,ct,osl,e,lk,hcd,hD,_⟩,kp⟩:=F
 rcases hD with ⟨_,rfl⟩ | ⟨hne,_⟩
 ·exact ⟨⟨oc,od,kV,doc,pm,an,cdv,ct,osl,e,lk,hcd⟩,kp⟩
 ·exact absurd rfl hne
theorem map_pair {α:Type} {β γ δ:Type} {x:Option α} {A:α→β} {B:α→γ} {g:α→δ} {b:β} {c:γ} {d:δ} (h1:x.map (fun s=>(A s,B s))=some (b,c)) (h2:x.map g=some d):x.map (fun s=>(A s,B s,g s))=some (b,c,d):=by
 cases x with
 | none=>cases h1
 | some a =>
  have e1:=Option.some.inj h1
  have e2:=Option.some.inj h2
  have e3:=congrArg Prod.fst e1
  have e4:=congrArg Prod.snd e1
  dsimp only at e3 e4
  show some (A a,B a,g a)=_
  rw [e3,e4,e2]
open HandSHeadRun PySem.W PySem.Calls in
abbrev RunA (r:OpenRow) (q:Program) (M:Nat) (loose:List PySem.Str) (w:World):Prop:=∀ os:OsState,(endF (stepQ (denQ tabQ) r.prog w) M r.prog w os).map (fun s=>(HandSHeadRun.looksF r.prog (boot_heap w.params) s.abs,HandSHeadRun.seenQ q loose (importedModules r.prog.main.body) (fun s=>xlAt q [] s && recOk r.toRowW.records s) s.abs))=some (true,openGood q loose)
open HandSHeadRun PySem.W PySem.Calls in
abbrev RunB (r:OpenRow) (H:Hook) (ob:SharedT→H.α) (M:Nat) (w:World):Prop:=∀ os:OsState,(endF (stepQ (denQ tabQ) r.prog w) M r.prog w os).map ob=some (H.val w)
open HandSHeadRun PySem.W PySem.Calls in
theorem run_pair {r:OpenRow} {q:Program} {H:Hook} {ob:SharedT→H.α} {M:Nat} {loose:List PySem.Str} {w:World} (hA:RunA r q M loose w) (hB:RunB r H ob M w):RunEq r q H ob M loose w:=fun os=>map_pair (hA os) (hB os)
def kids (g:Addr→Option Obj) (a:Addr):List Addr:=match g a with
 | some ⟨_,_,.func fd,_⟩=>refV fd.code++(refV fd.defaults++fd.closure.map Prod.snd)
 | some ⟨_,_,.cls cd,_⟩=>cd.ns :: (cd.mro.tail.flatMap refV)
 | some ⟨_,_,.dict es _,_⟩=>es.toList.flatMap fun e=>refV e.val
 | some ⟨_,_,.seq its _,_⟩=>its.toList.flatMap refV
 | some ⟨.type n,_,.fields vs,_⟩=>if n == "property" then vs.toList.flatMap refV else []
 | _=>[]
def lev (g:Addr→Option Obj):Nat→List Addr→List Addr
 | 0,l=>l
 | n+1,l=>l++lev g n (l.flatMap (kids g))
def asZ (n:Nat) (g:Addr→Option Obj):List Addr:=cStatics :: lev g n [mainGlobals]
def frZ (n:Nat) (g:Addr→Option Obj):PySem.W.Frag:=frT g (asZ n g)
def valZ (xs:List XsD):List FnZ:=xs.map fnZv
structure SaysZ (fa:List Fa) (fn:List DefD) (tf:List Defn) (ex:PySem.W.Frag→Bool) (xs:List XsD) (w:World) (h:Heap) (K:PySem.W.Frag):Prop where
 x:SaysX fa fn [] tf ex w h K
 z:(xs.map fun x=>fnZ K (xAd K x))=valZ xs
def obsK (fa:List Fa) (fn:List DefD) (tf:List Defn) (ex:PySem.W.Frag→Bool) (xs:List XsD) (g:Addr→Option Obj) (K:PySem.W.Frag):AlX × List FnZ:=((obsT fa fn [] K,ex K && tabsB g tf K),xs.map fun x=>fnZ K (xAd K x))
def obsZ (n:Nat) (fa:List Fa) (fn:List DefD) (tf:List Defn) (ex:PySem.W.Frag→Bool) (xs:List XsD) (g:Addr→Option Obj):AlX × List FnZ:=obsK fa fn tf ex xs g (frZ n g)
theorem saysZ_of {n:Nat} {fa:List Fa} {fn:List DefD} {tf:List Defn} {ex:PySem.W.Frag→Bool} {xs:List XsD} {w:World} {h:Heap} (e:obsZ n fa fn tf ex xs h.get? = (valX fn [] w,valZ xs)):SaysZ fa fn tf ex xs w h (frZ n h.get?):=by
 have e0:=congrArg (fun z:AlX × List FnZ=>z.1) e
 have e1:obsT fa fn [] (frZ n h.get?)=valT fn [] w:=congrArg (fun z:AlX=>z.1) e0
 have e2:(ex (frZ n h.get?) && tabsB h.get? tf (frZ n h.get?))=true:=congrArg (fun z:AlX=>z.2) e0
 obtain ⟨h1,h2⟩:=ba e2
 have key:∀ p∈tf,PySem.W.codeHdIn (frZ n h.get?) (cT (frZ n h.get?) p).1 (cT (frZ n h.get?) p).2=true∧∃ o,h.get? (cT (frZ n h.get?) p).2=some o∧emptyTab o=true:=fun p hp=>by
  obtain ⟨h3,h4⟩:=ba (List.all_eq_true.mp h2 p hp)
  refine ⟨h3,?_⟩
  cases q:h.get? (cT (frZ n h.get?) p).2 with
  | none =>
   rw [q] at h4
   cases h4
  | some o =>
   rw [q] at h4
   exact ⟨o,rfl,h4⟩
 exact ⟨⟨e1,h1,fun p hp=>(key p hp).1,fun p hp=>by
  obtain ⟨_,o,q,z⟩:=key p hp
  exact frT_none q z,fun p hp=>by
  obtain ⟨_,o,q,z⟩:=key p hp
  rw [q,emptyTab_eq z]⟩,congrArg Prod.snd e⟩
def hookZ (n:Nat) (fa:List Fa) (fn:List DefD) (tf:List Defn) (ex:PySem.W.Frag→Bool) (xs:List XsD):PySem.W.Hook where
 α:=AlX × List FnZ
 obs:=fun s=>obsZ n fa fn tf ex xs s.heap.get?
 val:=fun w=>(valX fn [] w,valZ xs)
 says:=fun w h=>∃ K:PySem.W.Frag,K.In h∧SaysZ fa fn tf ex xs w h K
 of:=fun _ _ e=>⟨_,frT_in,saysZ_of e⟩
 keeps:=fun _ _ _ ⟨K,hK,c⟩ k=>⟨K,PySem.W.Frag.In.keeps hK k,⟨⟨c.x.t,c.x.more,c.x.hd,c.x.out,fun p hp=>k _ _ (c.x.empty p hp)⟩,c.z⟩⟩
theorem obsZ_eq {n:Nat} {fa:List Fa} {fn:List DefD} {tf:List Defn} {ex:PySem.W.Frag→Bool} {xs:List XsD} {g:Addr→Option Obj} {s:Shared} (h:∀ a,g a=s.heap.get? a):obsZ n fa fn tf ex xs g=(hookZ n fa fn tf ex xs).obs s:=by
 have e:g=s.heap.get?:=funext h
 rw [e] <;> rfl
theorem SaysZ.ini {fa:List Fa} {fn:List DefD} {tf:List Defn} {ex:PySem.W.Frag→Bool} {xs:List XsD} {w:World} {h:Heap} {K:PySem.W.Frag} (c:SaysZ fa fn tf ex xs w h K) (i:Nat) {x:XsD} (hx:xs[i]? = some x:=by rfl):fnZ K (xAd K x)=fnZv x:=by
 have e2:(xs.map fun x=>fnZ K (xAd K x))[i]? = (valZ xs)[i]?:=by rw [c.z]
 unfold valZ at e2
 rw [List.getElem?_map,List.getElem?_map,hx] at e2
 exact Option.some.inj e2
end HdZ
namespace MV
open PySem PySem.Spec PyProof.Rows L2
def top (i:Nat):Stmt:=PySem.Challenge.pw_sidelists_k04_scopes_and_names.main.body.getD i (.Pass ⟨0,0,0,0⟩)
abbrev s_bag:Stmt:=top 39
abbrev s_take:Stmt:=top 40
def LET:Str:=Str.ofString "abcdefghijklmnopqrstuvwxyz"
abbrev s_isword:Stmt:=top 19
abbrev s_isnml:Stmt:=top 20
abbrev s_istest:Stmt:=top 21
abbrev s_arewords:Stmt:=top 22
abbrev s_rd_init:Stmt:=inClass (top 25) 0
abbrev s_rd_end:Stmt:=inClass (top 25) 4
abbrev s_rd_else:Stmt:=inClass (top 25) 5
abbrev s_rd_define:Stmt:=inClass (top 25) 3
abbrev s_rd_lists:Stmt:=inClass (top 25) 2
abbrev s_rd_take:Stmt:=inClass (top 25) 6
abbrev s_rd_simple:Stmt:=inClass (top 25) 7
abbrev s_rd_accepts:Stmt:=inClass (top 25) 1
abbrev s_pg_init:Stmt:=inClass (top 26) 1
abbrev s_cnames:Stmt:=top 31
abbrev s_crows:Stmt:=top 33
abbrev s_ctable:Stmt:=top 34
abbrev s_isrow:Stmt:=top 32
abbrev s_k_init:Stmt:=inClass (top 37) 1
abbrev s_BadNames:Stmt:=inClass (top 8) 0
abbrev s_refused:Stmt:=top 43
abbrev s_keeper_refused:Stmt:=top 47
abbrev s_BadLine:Stmt:=inClass (top 6) 0
abbrev s_any_words:Stmt:=top 42
abbrev s_procedures:Stmt:=top 44
abbrev s_plans:Stmt:=top 45
abbrev s_kept_right:Stmt:=top 46
abbrev s_groups_right:Stmt:=top 48
abbrev s_law:Stmt:=top 49
end MV
namespace HdE
open PySem PySem.Spec PyProof.Rows L2 MV
def names0:List Str:=[("_wall" : Str),
 ("__name__" : Str),
 ("SidelistsError" : Str),
 ("BadMove" : Str),
 ("NoPlace" : Str),
 ("Mismatch" : Str),
 ("BadLine" : Str),
 ("DifferentLists" : Str),
 ("BadNames" : Str),
 ("BadRow" : Str),
 ("NoName" : Str),
 ("MOST_NUMBER" : Str),
 ("DIGITS" : Str),
 ("LETTERS" : Str),
 ("KEPT" : Str)]
def names1:List Str:=[("SIGNS" : Str),
 ("is_integer" : Str),
 ("is_number" : Str),
 ("is_word" : Str),
 ("is_numeral" : Str),
 ("is_test" : Str),
 ("are_words" : Str),
 ("BLOCKS" : Str),
 ("Reader" : Str),
 ("Program" : Str),
 ("Move" : Str),
 ("MOST_NAMES" : Str),
 ("check_names" : Str),
 ("is_row" : Str),
 ("check_rows" : Str)]
def names2:List Str:=[("check_table" : Str),
 ("joined_rows" : Str),
 ("is_same" : Str),
 ("Keeper" : Str),
 ("_law_bag" : Str),
 ("_law_take" : Str),
 ("_law_of" : Str),
 ("_law_any_words" : Str),
 ("_law_refused" : Str),
 ("_law_procedures" : Str),
 ("_law_plans" : Str),
 ("_law_kept_right" : Str),
 ("_law_keeper_refused" : Str),
 ("_law_groups_right" : Str)]
def names:List Str:=names0++(names1++(names2))
def fa0:List He.Fa:=[(.glo "_law_bag" : He.Fa),
 (.glo "_law_take" : He.Fa),
 (.glo "_law_any_words" : He.Fa),
 (.glo "_law_refused" : He.Fa),
 (.glo "_law_keeper_refused" : He.Fa),
 (.glo "_law_procedures" : He.Fa),
 (.glo "_law_plans" : He.Fa),
 (.glo "_law_kept_right" : He.Fa),
 (.glo "_law_groups_right" : He.Fa),
 (.glo "is_word" : He.Fa),
 (.glo "is_numeral" : He.Fa),
 (.glo "is_test" : He.Fa),
 (.glo "are_words" : He.Fa),
 (.glo "check_names" : He.Fa),
 (.glo "is_row" : He.Fa),
 (.glo "check_rows" : He.Fa),
 (.glo "check_table" : He.Fa),
 (.glo "law" : He.Fa),
 (.glo "Reader" : He.Fa),
 (.cls "Reader" : He.Fa),
 (.mkr "Reader" : He.Fa),
 (.meth "Reader" "__init__" : He.Fa),
 (.meth "Reader" "accepts" : He.Fa),
 (.meth "Reader" "accept_lists" : He.Fa),
 (.meth "Reader" "accept_define" : He.Fa),
 (.meth "Reader" "accept_end" : He.Fa),
 (.meth "Reader" "accept_else" : He.Fa),
 (.meth "Reader" "accept_take" : He.Fa),
 (.meth "Reader" "accept_simple" : He.Fa),
 (.noat "Reader" "groups" : He.Fa)]
def fa1:List He.Fa:=[(.noat "Reader" "procedures" : He.Fa),
 (.noat "Reader" "defining" : He.Fa),
 (.noat "Reader" "blocks" : He.Fa),
 (.noat "Reader" "lists" : He.Fa),
 (.noat "Reader" "plans" : He.Fa),
 (.noat "Reader" "started" : He.Fa),
 (.glo "Program" : He.Fa),
 (.cls "Program" : He.Fa),
 (.mkr "Program" : He.Fa),
 (.meth "Program" "__init__" : He.Fa),
 (.noat "Program" "lines" : He.Fa),
 (.noat "Program" "scopes" : He.Fa),
 (.noat "Program" "groups" : He.Fa),
 (.noat "Program" "names" : He.Fa),
 (.glo "Keeper" : He.Fa),
 (.cls "Keeper" : He.Fa),
 (.mkr "Keeper" : He.Fa),
 (.meth "Keeper" "__init__" : He.Fa),
 (.noat "Keeper" "names" : He.Fa),
 (.noat "Keeper" "held" : He.Fa),
 (.glo "BadLine" : He.Fa),
 (.glo "BadNames" : He.Fa),
 (.free "super" : He.Fa),
 (.free "len" : He.Fa),
 (.free "abs" : He.Fa),
 (.free "int" : He.Fa),
 (.free "range" : He.Fa),
 (.free "list" : He.Fa),
 (.free "tuple" : He.Fa),
 (.free "str" : He.Fa)]
def fa2:List He.Fa:=[(.free "max" : He.Fa),
 (.free "min" : He.Fa),
 (.free "enumerate" : He.Fa),
 (.free "isinstance" : He.Fa),
 (.free "bool" : He.Fa),
 (.free "all" : He.Fa),
 (.free "any" : He.Fa),
 (.free "set" : He.Fa),
 (.free "zip" : He.Fa),
 (.str "LETTERS" LET:He.Fa),
 (.int "DIGITS" 20:He.Fa),
 (.glo "KEPT" : He.Fa),
 (.glo "SIGNS" : He.Fa),
 (.glo "BLOCKS" : He.Fa),
 (.int "MOST_NAMES" 6:He.Fa)]
def fa:List He.Fa:=fa0++(fa1++(fa2))
def fn0:List He.DefD:=[(⟨("_law_bag",none),"_law_bag","_law_bag",defArgs s_bag,defBody s_bag,defScope s_bag,[],[]⟩ : He.DefD),
 (⟨("_law_take",none),"_law_take","_law_take",defArgs s_take,defBody s_take,defScope s_take,[],[]⟩ : He.DefD),
 (⟨("_law_any_words",none),"_law_any_words","_law_any_words",defArgs s_any_words,defBody s_any_words,defScope s_any_words,[],[]⟩ : He.DefD),
 (⟨("_law_refused",none),"_law_refused","_law_refused",defArgs s_refused,defBody s_refused,defScope s_refused,[],[]⟩ : He.DefD),
 (⟨("_law_keeper_refused",none),"_law_keeper_refused","_law_keeper_refused",defArgs s_keeper_refused,defBody s_keeper_refused,defScope s_keeper_refused,[],[]⟩ : He.DefD),
 (⟨("_law_procedures",none),"_law_procedures","_law_procedures",defArgs s_procedures,defBody s_procedures,defScope s_procedures,[],[]⟩ : He.DefD),
 (⟨("_law_plans",none),"_law_plans","_law_plans",defArgs s_plans,defBody s_plans,defScope s_plans,[],[]⟩ : He.DefD),
 (⟨("_law_kept_right",none),"_law_kept_right","_law_kept_right",defArgs s_kept_right,defBody s_kept_right,defScope s_kept_right,[],[]⟩ : He.DefD),
 (⟨("_law_groups_right",none),"_law_groups_right","_law_groups_right",defArgs s_groups_right,defBody s_groups_right,defScope s_groups_right,[],[]⟩ : He.DefD),
 (⟨("is_word",none),"is_word","is_word",defArgs s_isword,defBody s_isword,defScope s_isword,[],[]⟩ : He.DefD),
 (⟨("is_numeral",none),"is_numeral","is_numeral",defArgs s_isnml,defBody s_isnml,defScope s_isnml,[],[]⟩ : He.DefD),
 (⟨("is_test",none),"is_test","is_test",defArgs s_istest,defBody s_istest,defScope s_istest,[],[]⟩ : He.DefD),
 (⟨("are_words",none),"are_words","are_words",defArgs s_arewords,defBody s_arewords,defScope s_arewords,[],[]⟩ : He.DefD),
 (⟨("check_names",none),"check_names","check_names",defArgs s_cnames,defBody s_cnames,defScope s_cnames,[],[]⟩ : He.DefD),
 (⟨("is_row",none),"is_row","is_row",defArgs s_isrow,defBody s_isrow,defScope s_isrow,[],[]⟩ : He.DefD)]
def fn1:List He.DefD:=[(⟨("check_rows",none),"check_rows","check_rows",defArgs s_crows,defBody s_crows,defScope s_crows,[],[]⟩ : He.DefD),
 (⟨("check_table",none),"check_table","check_table",defArgs s_ctable,defBody s_ctable,defScope s_ctable,[],[]⟩ : He.DefD),
 (⟨("law",none),"law","law",defArgs s_law,defBody s_law,defScope s_law,[],[]⟩ : He.DefD),
 (⟨("Reader",some "__init__"),"__init__","Reader.__init__",defArgs s_rd_init,defBody s_rd_init,defScope s_rd_init,[],[]⟩ : He.DefD),
 (⟨("Reader",some "accepts"),"accepts","Reader.accepts",defArgs s_rd_accepts,defBody s_rd_accepts,defScope s_rd_accepts,[],[]⟩ : He.DefD),
 (⟨("Reader",some "accept_lists"),"accept_lists","Reader.accept_lists",defArgs s_rd_lists,defBody s_rd_lists,defScope s_rd_lists,[],[]⟩ : He.DefD),
 (⟨("Reader",some "accept_define"),"accept_define","Reader.accept_define",defArgs s_rd_define,defBody s_rd_define,defScope s_rd_define,[],[]⟩ : He.DefD),
 (⟨("Reader",some "accept_end"),"accept_end","Reader.accept_end",defArgs s_rd_end,defBody s_rd_end,defScope s_rd_end,[],[]⟩ : He.DefD),
 (⟨("Reader",some "accept_else"),"accept_else","Reader.accept_else",defArgs s_rd_else,defBody s_rd_else,defScope s_rd_else,[],[]⟩ : He.DefD),
 (⟨("Reader",some "accept_take"),"accept_take","Reader.accept_take",defArgs s_rd_take,defBody s_rd_take,defScope s_rd_take,[],[]⟩ : He.DefD),
 (⟨("Reader",some "accept_simple"),"accept_simple","Reader.accept_simple",defArgs s_rd_simple,defBody s_rd_simple,defScope s_rd_simple,[],[]⟩ : He.DefD),
 (⟨("Program",some "__init__"),"__init__","Program.__init__",defArgs s_pg_init,defBody s_pg_init,defScope s_pg_init,[],[]⟩ : He.DefD),
 (⟨("Keeper",some "__init__"),"__init__","Keeper.__init__",defArgs s_k_init,defBody s_k_init,defScope s_k_init,[.adr (He.dflAt ("Keeper",some "__init__") 0)],[]⟩ : He.DefD)]
def fn:List He.DefD:=fn0++(fn1)
def ex0 (K:PySem.W.Frag):List Bool:=[HdZ.oexB K (He.ga K "BadLine"),
 decide (PySem.W.findIn K (.ref (He.ga K "BadLine")) "__setattr__"=some (some (.builtin "object.__setattr__"))),
 decide (PySem.W.subIn K (.ref (He.ga K "BadLine")) (.type "BaseException")=some true),
 decide (PySem.W.typeIn K (.ref (He.ga K "BadLine"))=some (.type "type")),
 PySem.W.keepIn K (.ref (He.ga K "BadLine")),
 decide (PySem.W.findIn K (.ref (He.ga K "BadLine")) "__init__"=some (some (.ref (He.ma K (He.ga K "BadLine") "__init__")))),
 decide (PySem.W.typeIn K (.ref (He.ma K (He.ga K "BadLine") "__init__"))=some (.type "function")),
 decide (PySem.W.mroIn K (He.ga K "BadLine") (.ref (He.ga K "BadLine"))=some true),
 decide (PySem.W.ks_superIn K (He.ga K "BadLine") (He.ga K "BadLine") "__init__"=some (some (.builtin "ValueError.__init__"))),
 decide (PySem.W.subIn K (.ref (He.ga K "BadLine")) (.type "ValueError")=some true),
 HdZ.iniB K (He.ga K "BadLine") (PySem.Challenge.rw_sidelists_k04_scopes_and_names).prog.main.file "BadLine.__init__",
 decide (PySem.W.findIn K (.ref (He.ga K "BadLine")) "at"=some none),
 decide (PySem.W.findIn K (.ref (He.ga K "BadLine")) "__getattribute__"=some (some (.builtin "BaseException.__getattribute__"))),
 decide (PySem.W.findIn K (.ref (He.ga K "BadLine")) "__getattr__"=some none),
 PySem.W.hasDictIn K (He.ga K "BadLine")]
def ex1 (K:PySem.W.Frag):List Bool:=[HdZ.oexB K (He.ga K "BadNames"),
 decide (PySem.W.findIn K (.ref (He.ga K "BadNames")) "__setattr__"=some (some (.builtin "object.__setattr__"))),
 decide (PySem.W.subIn K (.ref (He.ga K "BadNames")) (.type "BaseException")=some true),
 decide (PySem.W.typeIn K (.ref (He.ga K "BadNames"))=some (.type "type")),
 PySem.W.keepIn K (.ref (He.ga K "BadNames")),
 decide (PySem.W.findIn K (.ref (He.ga K "BadNames")) "__init__"=some (some (.ref (He.ma K (He.ga K "BadNames") "__init__")))),
 decide (PySem.W.typeIn K (.ref (He.ma K (He.ga K "BadNames") "__init__"))=some (.type "function")),
 decide (PySem.W.mroIn K (He.ga K "BadNames") (.ref (He.ga K "BadNames"))=some true),
 decide (PySem.W.ks_superIn K (He.ga K "BadNames") (He.ga K "BadNames") "__init__"=some (some (.builtin "ValueError.__init__"))),
 decide (PySem.W.subIn K (.ref (He.ga K "BadNames")) (.type "ValueError")=some true),
 HdZ.iniB K (He.ga K "BadNames") (PySem.Challenge.rw_sidelists_k04_scopes_and_names).prog.main.file "BadNames.__init__",
 decide (PySem.W.findIn K (.ref (He.ga K "BadNames")) "at"=some none),
 decide (PySem.W.findIn K (.ref (He.ga K "BadNames")) "__getattribute__"=some (some (.builtin "BaseException.__getattribute__"))),
 decide (PySem.W.findIn K (.ref (He.ga K "BadNames")) "__getattr__"=some none),
 PySem.W.hasDictIn K (He.ga K "BadNames")]
def ex2 (K:PySem.W.Frag):List Bool:=[decide (PySem.W.nsIn K cStatics "thirdparty.any"=some none),
 He.tupB K "KEPT" [.str "lists",.str "define",.str "end",.str "take",.str "order",.str "down",.str "keep",.str "turn",.str "new",.str "front",.str "back",.str "any",.str "spot",.str "move",.str "cut",.str "set",.str "pour",.str "into",.str "check",.str "stop",.str "call",.str "maybe",.str "else",.str "repeat",.str "guard"],
 He.tupB K "SIGNS" [.str "<",.str ">=",.str "=",.str "!="],
 He.tupB K "BLOCKS" [.str "maybe",.str "repeat",.str "guard"],
 decide (PySem.W.exmOne K (.ref (He.ga K "BadLine")) (.ref (He.ga K "BadLine"))=some true),
 decide (PySem.W.exmOne K (.ref (He.ga K "BadNames")) (.ref (He.ga K "BadNames"))=some true),
 HdZ.etB K (He.dflAt ("Keeper",some "__init__") 0 K)]
def exL (K:PySem.W.Frag):List Bool:=ex0 K++(ex1 K++(ex2 K))
def ex (K:PySem.W.Frag):Bool:=(exL K).all id
def tf:List He.Defn:=[]
def xs:List HdZ.XsD:=[("BadLine","BadLine.__init__",s_BadLine,none),("BadNames","BadNames.__init__",s_BadNames,none)]
abbrev R:PySem.W.OpenRow:=PySem.W.OpenLaw.row PySem.Challenge.rw_sidelists_k04_scopes_and_names
abbrev hk:PySem.W.Hook:=HdZ.hookZ 5 fa fn tf ex xs
def ob (s:PySem.W.SharedT):He.AlX × List HdZ.FnZ:=HdZ.obsZ 5 fa fn tf ex xs (HandSHeadRun.getT s)
theorem ob_eq (s:PySem.W.SharedT):ob s=hk.obs s.abs:=HdZ.obsZ_eq (HandSHeadRun.getT_eq s)
theorem runA (w:World):HdZ.RunA R (PySem.W.view R.prog [49]) 20000 names w:=by
 intro os
 kernel_rfl
theorem runB (w:World):HdZ.RunB R hk ob 20000 w:=by
 intro os
 kernel_rfl
theorem run (w:World):HandSHeadRun.RunEq R (PySem.W.view R.prog [49]) hk ob 20000 names w:=HdZ.run_pair (runA w) (runB w)
end HdE
section
open PySem PySem.W PySem.Calls PyProof.Rows
theorem HdE.early (hF:∀ (w:World) (K:PySem.W.Frag) (h:Heap) (mg:PySem.Str→Option Value) (f:Addr),K.In h→h.Ns mainGlobals mg→mg ("law" : PySem.Str)=some (.ref f)→HdZ.SaysZ HdE.fa HdE.fn HdE.tf HdE.ex HdE.xs w h K→LamX.LawAtS PySem.Challenge.rw_sidelists_k04_scopes_and_names w K C8.CX0 10 63 "_law_script" mg f h):PySem.Challenge.rw_sidelists_k04_scopes_and_names.Holds:=by
 w_on; o_law
 refine HandSHeadRun.head_any (r:=OpenLaw.row PySem.Challenge.rw_sidelists_k04_scopes_and_names) (q:=view (OpenLaw.row PySem.Challenge.rw_sidelists_k04_scopes_and_names).prog [49]) (H:=HdE.hk) (ob:=HdE.ob) (M:=20000) (loose:=HdE.names) (d:=HandSHeadRun.topDef (OpenLaw.row PySem.Challenge.rw_sidelists_k04_scopes_and_names).prog 49) (kwd:=[]) HdE.ob_eq
  (by kernel_rfl) (fun s=>by kernel_rfl) HdE.run (by kernel_rfl) (by kernel_rfl) (by kernel_rfl) (by rfl) (by first | assumption | decide +kernel) (by decide +kernel) ⟨rfl,rfl,rfl,rfl,rfl,by decide +kernel⟩ ?hw ?hc
 case hw=>w_witness2
 case hc =>
  refine LamX.walk_ofTsE (l:=PySem.Challenge.rw_sidelists_k04_scopes_and_names) (n:=63) (k:=10) (x:="_law_script") (CX:=fun _=>C8.CX0) rfl (by decide) (by kernel_rfl) ⟨rfl,by decide,by decide⟩ ?F (fun _ _ _ _ _ z=>z)
  intro w mg fa h Y G hmg0
  obtain ⟨K,KX,c⟩:=Y
  have hmg:mg ("law" : PySem.Str)=some (.ref fa):=by
   have e:(HandSHeadRun.topDef (OpenLaw.row PySem.Challenge.rw_sidelists_k04_scopes_and_names).prog 49).name=("law" : PySem.Str):=by kernel_rfl
   rw [← e]
   exact hmg0
  exact ⟨K,KX,hF w K h mg fa KX G hmg c⟩
end
namespace SB
open PySem PySem.Spec PyProof.Rows L2
structure Cl (P:Program) (w:World) (K:PySem.W.Frag) (mg:Str→Option Value) (base:Heap) (CX:CXT) (k:Nat) (x:Str) (sp:Sp):Prop where
 ex:∃ f:Addr,FnR P w K mg base CX k f sp∧mg x=some (.ref f)∧PySem.W.keepIn K (.ref f)=true
structure Ml (P:Program) (w:World) (K:PySem.W.Frag) (mg:Str→Option Value) (base:Heap) (CX:CXT) (k:Nat) (x:Str) (C:Addr) (sp:Sp):Prop where
 ex:∃ f:Addr,Mk K C f∧FnR P w K mg base CX k f sp∧mg x=some (.ref C)
structure Me (P:Program) (w:World) (K:PySem.W.Frag) (mg:Str→Option Value) (base:Heap) (CX:CXT) (k:Nat) (C:Addr) (m:Str) (sp:Sp):Prop where
 ex:∃ g:Addr,FnR P w K mg base CX k g sp∧PySem.W.findIn K (.ref C) m=some (some (.ref g))∧PySem.W.isFn K (.ref g)=true∧PySem.W.keepIn K (.ref g)=true
def tCl (sp:Sp) (E:XK) (t:TA):TE:=fun σ H Q=>t σ H fun vs H1=>sp vs H1 Q E
section
variable {X:Cx} {CX:CXT} {k j:Nat} {C:Addr} {x m:Str} {sp:Sp} {E:XK} {p pos apos:Pos} {e o:Expr} {es:List Expr} {ta tb:TE} {t:TA}
theorem pe_cl (c:Cl X.prog X.w X.K X.mg X.base CX k x sp) (hr:Room j X.A) (hk:k≤j) (hg:Gl X x) (hx:Passes CX X E) (ha:PA X (e :: es) t) (hd:(x == ("__debug__" : Str))=false:=by decide)
  (he:starEach (e :: es) X.env=(false,eval e X.env) :: starEach es X.env:=by rfl) (hpl:(backTo pos (starEach es X.env)).any (·.1)=false:=by rfl) :
  PE X (.Call (.Name x p) (e :: es) [] pos) (tCl sp E t):=by
 obtain ⟨f,F,hm,kp⟩:=c.ex
 refine ⟨fun pins s σ H Q I h=>?_⟩
 refine wpAny_Call_Name_kw (ld_glob I hg hm ?_ hd)
 refine PySem.W.callWith_K (h₀:=X.base) I.ok.mod.kin kp (thn (ha.run pos pins s σ H _ I h) fun us s1 ⟨vs,H1,I1,r,q⟩=>⟨I1.kIn,?_⟩) he hpl
 exact wpAny_call (run_fnR F (hr.mono hk) hx I1 r q)
def tMl (C:Addr) (sp:Sp) (E:XK) (t:TA):TE:=fun σ H Q=>t σ H fun vs H1=>∀ x dx,H1 x=Option.none→H1 dx=Option.none→dx≠x →
 sp (V.ref x :: vs) (upd (upd H1 dx (.own x)) x (.ins C dx [])) (fun v H2=>v=.non∧Q (.ref x) H2) E
end
section
variable {X:Cx} {CX:CXT} {k j:Nat} {C:Addr} {x m:Str} {sp:Sp} {E:XK} {p pos apos:Pos} {e o fe:Expr} {es:List Expr} {ta tf:TE} {t:TA}
end
theorem meets_enumerate_newT (l:Addr) (items:Array Value) (n:Nat) (dct:Option Addr) (sl:Array (Option Value)) :
  Meets (Builtin.«enumerate.__new__» ⟨[.type "enumerate",.ref l],[]⟩) (fun _ R s=>s.heap.get? l=some { cls:=.type "tuple",dict:=dct,data:=.seq items n,slots:=sl } ∧
   R (.ok (.ret (.ref (s.heap.push { cls:=.type "tuple_iterator",data:=.fields #[.ref l,.int 0 0] }).objs.size)))
    { s with heap:=(s.heap.push { cls:=.type "tuple_iterator",data:=.fields #[.ref l,.int 0 0] }).push { cls:=.type "enumerate",data:=.fields #[.none,.bool false,.ref s.heap.objs.size,rawInt 0,.none,.none] } }):=
 .of_wp fun prog w A R s h=>by
  obtain ⟨hp,g,d,tk,os⟩:=s; obtain ⟨hl,h⟩:=h
  have hsub:=sub_enumerate
  have hL:Heap.IsTuple (Shared.heap ⟨hp,g,d,tk,os⟩) l items:=⟨_,hl,rfl,n,rfl⟩
  wp_walk using AutoSeq1.wpAny_loadPart' hl
  refine wpAny_stack_any fun st=>wpAny_pure ?_
  split
  ·rename_i c _ _ _ _ _
   cases (c == Value.type "enumerate")
   ·wp_walk using AutoSeq1.wpAny_loadPart' hl,wpAny_pyIter_tuple hL
    exact ⟨_,rfl,h⟩
   ·wp_walk using AutoSeq1.wpAny_loadPart' hl,wpAny_pyIter_tuple hL
    exact ⟨_,rfl,h⟩
  ·wp_walk using AutoSeq1.wpAny_loadPart' hl,wpAny_pyIter_tuple hL
   exact ⟨_,rfl,h⟩
theorem call_enumerate_tup {prog:Program} {w:World} {A:Around} {E:Value→Shared→Prop} {s:Shared} {l:Addr} {items:Array Value} {Q:Value→Shared→Prop} (hL:s.heap.IsTuple l items)
  (h:∀ h',IsEnum h' (s.heap.objs.size+1) s.heap.objs.size 0 .none→h'.IsTupleIter s.heap.objs.size l 0→h'.objs.size=s.heap.objs.size+2 →
   (∀ b o,s.heap.get? b=some o→h'.get? b=some o)→Q (.ref (s.heap.objs.size+1)) { s with heap:=h' }) :
  wpAny (model prog w) A (call (.type "enumerate") [.ref l]) Q E s:=by
 obtain ⟨⟨c,dct,dt,sl⟩,hl,hc,n,hd⟩:=hL
 replace hc:c=.type "tuple":=hc
 replace hd:dt=.seq items n:=hd
 subst hc hd
 refine callType_new F.called_enumerate (by decide) (F.typeCall_enumerate_1 _) (F.newCall_enumerate_1 _) (fun obj=>F.args_object_init_2 obj _) F.entry_enumerate_new
  (meets_enumerate_newT l items n dct sl) ⟨hl,?_⟩
 have hz:(s.heap.push { cls:=.type "tuple_iterator",data:=.fields #[.ref l,.int 0 0] }).objs.size=s.heap.objs.size+1:=Heap.size_push ..
 show _∧_
 rw [hz]
 have he:IsEnum ((s.heap.push { cls:=.type "tuple_iterator",data:=.fields #[.ref l,.int 0 0] }).push
   { cls:=.type "enumerate",data:=.fields #[.none,.bool false,.ref s.heap.objs.size,rawInt 0,.none,.none] }) (s.heap.objs.size+1) s.heap.objs.size 0 .none:=by
  have:=Heap.get?_push_size (s.heap.push { cls:=.type "tuple_iterator",data:=.fields #[.ref l,.int 0 0] })
   (o:={ cls:=.type "enumerate",data:=.fields #[.none,.bool false,.ref s.heap.objs.size,rawInt 0,.none,.none] }) rfl
  rw [hz] at this; exact this
 refine ⟨⟨_,he,rfl⟩,h _ he ⟨_,Heap.get?_push_of_some _ (Heap.get?_push_size _ rfl),rfl,rfl⟩ (by rw [Heap.size_push,hz]) fun b o x=>Heap.get?_push_of_some _ (Heap.get?_push_of_some _ x)⟩
def IteT (K:PySem.W.Frag) (a:Addr):It:=
 ⟨fun i H=>∃ (xs:List V) (x:V),SqT K H a xs∧xs[i]? = some x,fun i H v H'=>∃ T x,v=.ref T∧H T=none∧H'=upd H T (.tup [.int (i:Nat),x])∧∀ xs,SqT K H a xs→xs[i]? = some x,fun i H=>∃ xs:List V,SqT K H a xs∧xs.length=i⟩
theorem turn_enumT {P:Program} {w:World} {K:PySem.W.Frag} {elts:List Expr} {kk:Nat} {tpos:Pos} (a e it:Addr) :
  Turn P w K (.Tuple elts kk tpos) (IteT K a) [e,it] e (fun i h=>(∃ old,IsEnum h e it ((i:Nat):Int) old)∧h.IsTupleIter it a i∧e≠it∧a≠it∧a≠e) where
 mem:=by simp
 obj:=fun i h st b hb=>by
  obtain ⟨⟨old,he⟩,⟨o,ho,hc,hd⟩,_⟩:=st
  have e':b=e∨b=it:=by simpa using hb
  rcases e' with z | z
  ·rw [z]; exact ⟨_,he,fun v q=>nomatch q⟩
  ·rw [z]; exact ⟨o,ho,fun v q=>by rw [hd] at q; cases q⟩
 keep:=fun i h h' st k=>let ⟨⟨old,he⟩,hi,hne⟩:=st; ⟨⟨old,k e (by simp) _ he⟩,hi.at fun o q=>k it (by simp) o q,hne⟩
 item:=by
  intro X hP hw hK hc i pins s σ H E I hf st hg
  subst hP hw hK
  obtain ⟨⟨old,he⟩,hit,hne,nai,nae⟩:=st
  obtain ⟨xs,x,hq,hx⟩:=hg
  obtain ⟨its,rv,p,hz⟩:=I.tuple hq
  obtain ⟨u,hu,ru⟩:=rv.get hx
  have hel:e < s.heap.objs.size:=Heap.lt_size he
  have hil:it < s.heap.objs.size:=by obtain ⟨_,q,_⟩:=hit; exact Heap.lt_size q
  have hlt:i < its.toArray.size:=by
   have:=(List.getElem?_eq_some_iff.mp hu).1
   simpa using this
  have hA:X.A.in1.handled=none:=I.ok.hd hc
  refine wpAny_pyNext_enum_itemD (Draws.tuple hA it a nai its.toArray) he ⟨hit,p⟩ hlt hne (by simp; exact ⟨hne,fun z=>nae z.symm⟩) fun u' h' tk hP ho hst hT hsz hk=>?_
  have eu:u'=u:=by
   have q:its[i]? = some u':=by simpa using hP
   rw [hu] at q; exact (Option.some.inj q).symm
  subst eu
  obtain ⟨hit',_⟩:=hst
  refine ⟨_,rfl,wpAny_letOwnedTupleGo_enum (s:={ s with heap:=h',toks:=tk+1 }) ho fun h'' he' sb=>?_⟩
  have hT2:h''.get? s.heap.objs.size=some { cls:=.type "tuple",data:=.seq #[.int i tk,u'] }:=(sb.2 _ (Nat.ne_of_gt hel)).trans hT
  have new:ObjOk X.prog X.w (upd H s.heap.objs.size (.tup [.int (i:Nat),x])) h'' s.heap.objs.size (.tup [.int (i:Nat),x]):=
   ⟨by show 2≤sizeLine; decide,[.int i tk,u'],.cons ⟨_,rfl⟩ (.cons ru .nil),⟨_,hT2,rfl,_,rfl⟩⟩
  have I1:Inv X pins σ (upd H s.heap.objs.size (.tup [.int (i:Nat),x])) { s with heap:=h'',toks:=tk+1 }:=
   I.turnedNew (ch:=[e,it]) (fun b ob hb q=>(sb.2 b (fun z=>hb (by simp [z]))).trans (hk b ob (fun z=>hb (by simp [z])) (fun z=>hb (by simp [z])) q)) hf (Nat.le_refl _) new
  refine ⟨.ref s.heap.objs.size,_,I1,rfl,⟨_,x,rfl,I.hok.fresh (Nat.le_refl _),rfl,fun ys hy=>by rw [I.tuple_inj hy hq]; exact hx⟩,⟨⟨u',?_⟩,hit'.at fun o q=>(sb.2 it (Ne.symm hne)).trans q,hne,nai,nae⟩,fun b hb=>?_⟩
  ·have e1:((i+1:Nat):Int)=(i:Int)+1:=by omega
   rw [e1]; exact he'
  ·have hb':b < s.heap.objs.size:=by
    have e':b=e∨b=it:=by simpa using hb
    rcases e' with z | z
    ·rw [z]; exact hel
    ·rw [z]; exact hil
   rw [upd_ne (Nat.ne_of_lt hb')]
   exact (hf b hb).1
 done:=by
  intro X hP hw hK hc i pins s σ H E I hf st hg
  subst hP hw hK
  obtain ⟨⟨old,he⟩,hit,hne,nai,nae⟩:=st
  obtain ⟨xs,hq,hx⟩:=hg
  obtain ⟨its,rv,p,hz⟩:=I.tuple hq
  obtain ⟨f0,f1,f2,f3,f4,f5⟩:=hf it (by simp)
  have hl:=rv.length
  have hA:X.A.in1.handled=none:=I.ok.hd hc
  have en:i=its.toArray.size:=by simp; omega
  subst en
  exact wpAny_pyNext_enum_endD (Draws.tuple hA it a nai its.toArray) he ⟨hit,p⟩ fun h' eb=>⟨rfl,I.turned (t':=s.toks) (fun b o hb q=>eb b o hb q) f0 f1 f3 f4 f5⟩
 self:=fun A i s Q E st h=>let ⟨⟨_,he⟩,_⟩:=st; wpAny_pyIter_enum he h
theorem walk_enumT {K:PySem.W.Frag} {a:Addr} {xs:List V}:Walk (IteT K a) xs.length (fun H=>SqT K H a xs) (YPair (fun i=>some (.int (i:Nat))) (fun i=>xs[i]?)):=by
 refine ⟨fun i _ hi q=>⟨xs,xs[i],q,by simp [hi]⟩,fun _ q=>⟨xs,q,rfl⟩,fun i H v H' _ q y=>?_⟩
 obtain ⟨T,x,h1,h2,h3,h4⟩:=y
 exact ⟨T,.int (i:Nat),x,h1,h2,h3,rfl,h4 xs q⟩
def iEnumS (K:PySem.W.Frag) (ta:TA):TI:=fun σ H R=>ta σ H fun vs H1=>∃ a xs,vs=[.ref a]∧(SqL K H1 a xs∨SqT K H1 a xs) ∧
 ∀ (J:It) (G:Hp→Prop),Walk J xs.length G (YPair (fun i=>some (.int (i:Nat))) (fun i=>xs[i]?))→(∀ H',(SqL K H1 a xs→SqL K H' a xs)→(SqT K H1 a xs→SqT K H' a xs)→G H')→R J H1
theorem pi_enumS {X:Cx} {e:Expr} {ta:TA} {p pos tpos:Pos} {elts:List Expr} {kk:Nat} (hg:Gl X "enumerate") (hm:X.mg "enumerate"=none) (ha:PA X [e] ta) (hs:starEach [e] X.env=[(false,eval e X.env)]:=by rfl) :
  PI X (.Tuple elts kk tpos) (.Call (.Name "enumerate" p) [e] [] pos) (iEnumS X.K ta):=by
 refine ⟨fun pins s σ H R I h=>?_⟩
 refine Call_ (ld_blt I hg hm boot_enumerate (PyProof.Rows.callWith_type1 (thn (ha.run pos pins s σ H _ I h) fun us s1 ⟨vs,H1,I1,r1,q1⟩=>?_) hs rfl))
 obtain ⟨a,xs,ex,hq,q⟩:=q1
 subst ex
 have hfp:∀ b,b=s1.heap.objs.size+1∨b=s1.heap.objs.size→s1.heap.objs.size≤b:=fun b e'=>by
  rcases e' with z | z
  ·rw [z]; exact Nat.le_add_right _ _
  ·rw [z]; exact Nat.le_refl _
 cases r1 with
 | cons r rr =>
  cases rr
  cases r
  rcases hq with hq | hq
  ·obtain ⟨its,rv,p',hz⟩:=I1.list hq
   refine call_enumerate_list p'.isList fun h' he hit hsz hk=>wpAny_pyIter_enum he ?_
   have I2:Inv X pins σ H1 { s1 with heap:=h' }:=I1.kept (t':=s1.toks) hk
   refine ⟨s1.heap.objs.size+1,[s1.heap.objs.size+1,s1.heap.objs.size],_,_,H1,rfl,I2,turn_enum a (s1.heap.objs.size+1) s1.heap.objs.size,⟨⟨.none,he⟩,hit,Nat.succ_ne_self _⟩,fun b hb=>?_,q _ _ walk_enum fun H' e _=>e hq⟩
   have hle:=hfp b (by simpa using hb)
   exact I1.fpOk hle (I1.hok.fresh hle)
  ·obtain ⟨its,rv,p',hz⟩:=I1.tuple hq
   have hlt:=p'.lt
   refine call_enumerate_tup p' fun h' he hit hsz hk=>wpAny_pyIter_enum he ?_
   have I2:Inv X pins σ H1 { s1 with heap:=h' }:=I1.kept (t':=s1.toks) hk
   refine ⟨s1.heap.objs.size+1,[s1.heap.objs.size+1,s1.heap.objs.size],_,_,H1,rfl,I2,turn_enumT a (s1.heap.objs.size+1) s1.heap.objs.size,⟨⟨.none,he⟩,hit,Nat.succ_ne_self _,Nat.ne_of_lt hlt,Nat.ne_of_lt (Nat.lt_succ_of_lt hlt)⟩,fun b hb=>?_,q _ _ walk_enumT fun H' _ e=>e hq⟩
   have hle:=hfp b (by simpa using hb)
   exact I1.fpOk hle (I1.hok.fresh hle)
section
variable {P:Program} {w:World} {K:PySem.W.Frag} {mg:Str→Option Value} {base:Heap}
theorem fnr {x qual:Str} {st:Stmt} {f:Addr} {fd:FuncData} {N ps:List Str} {k:Nat} {sp:Sp} (F:Fun K x qual st f fd) (S:FnScope N ps (defScope st)) (len:∀ vs H Q E,sp vs H Q E→vs.length=ps.length)
  (hb:∀ (kV doc pm:Value) (an:Option Addr) (cdv ct:Value) (us:List Value),us.length=ps.length→bindArgs (PySem.W.fnOf x qual (defArgs st) (defBody st) (defScope st) .none kV doc pm an cdv ct) ⟨us,[]⟩=pure (ps.zip us))
  (hbody:∀ (cdv:Value) (A:Around) (outer:List Env) (s:Shared) (H:Hp) (vs:List V) (Q:VK) (E:XK),Room k (A.deeper (envOfC qual (defScope st) s.heap.objs.size f cdv))→sp vs H Q E →
   ∃ t,PSs (cxOf CX0 P w K mg base N qual (defScope st) f cdv A outer s H E).nox (defBody st) t∧t { nx:=fun _ H'=>Q .non H',rt:=Q } (start N vs) H):FnR P w K mg base CX0 (k+1) f sp:=
 (FnOk.raw (F.ok S len hbody) (F.binds hb) .nil).imp fun vs H Q E h=>by rw [List.append_nil]; exact h
end
theorem FnOk.r {P:Program} {w:World} {K:PySem.W.Frag} {mg:Str→Option Value} {base:Heap} {CX:CXT} {k:Nat} {f:Addr} {fd:FuncData} {ps:List Str} {sp:Sp} (F:FnOk P w K mg base CX k f fd ps sp) (b:Binds K fd ps []):FnR P w K mg base CX k f sp:=
 (FnOk.raw F b .nil).imp fun vs H Q E h=>by rw [List.append_nil]; exact h
def KeepB (b:Addr) (H H':Hp):Prop:=∀ c o,H c=some o→c≠b→H' c=some o
theorem KeepB.refl (b:Addr) (H:Hp):KeepB b H H:=fun _ _ e _=>e
theorem KeepB.trans {b:Addr} {H H1 H2:Hp} (x:KeepB b H H1) (y:KeepB b H1 H2):KeepB b H H2:=fun c o e n=>y c o (x c o e n) n
theorem KeepB.upd {b:Addr} {H H1:Hp} {o:HO} (x:KeepB b H H1):KeepB b H (L2.upd H1 b o):=fun c u e n=>by rw [upd_ne n]; exact x c u e n
theorem KeepB.new {b p:Addr} {H H1:Hp} {o:HO} (x:KeepB b H H1) (hp:H1 p=none):KeepB b H (L2.upd H1 p o):=fun c u e n=>by
 rw [upd_ne (ne_of_none (x c u e n) hp)]; exact x c u e n
theorem same_new {p:Addr} {H H1:Hp} {o:HO} (x:Same H H1) (hp:H1 p=none):Same H (L2.upd H1 p o):=fun c u e=>by
 rw [upd_ne (ne_of_none (x c u e) hp)]; exact x c u e
theorem Same.sqT {K:PySem.W.Frag} {H H':Hp} {a:Addr} {xs:List V} (e:Same H H') (h:SqT K H a xs):SqT K H' a xs:=by
 rcases h with (h | ⟨o,h⟩) | h
 ·exact .inl (.inl (e _ _ h))
 ·exact .inl (.inr ⟨o,e _ _ h⟩)
 ·exact .inr h
theorem KeepB.sqT {K:PySem.W.Frag} {b:Addr} {H H':Hp} {a:Addr} {xs:List V} (e:KeepB b H H') {l:List V} (hb:H b=some (.lst l)) (h:SqT K H a xs):SqT K H' a xs:=by
 rcases h with (h | ⟨o,h⟩) | h
 ·exact .inl (.inl (e _ _ h (ne_of h hb (by intro z; cases z))))
 ·exact .inl (.inr ⟨o,e _ _ h (ne_of h hb (by intro z; cases z))⟩)
 ·exact .inr h
def Sh (d:PyData):Prop:=d.canLay0=true∧d.depth≤10
theorem canLayAll_of:∀ {ds:List PyData},(∀ d∈ds,d.canLay0=true)→PyData.canLayAll0 ds=true
 | [],_=>rfl
 | d :: ds,h=>by
  show (PyData.canLay0 d && PyData.canLayAll0 ds)=true
  rw [h d List.mem_cons_self,canLayAll_of fun e he=>h e (List.mem_cons_of_mem _ he)] <;> rfl
theorem depthAll_of {k:Nat}:∀ {ds:List PyData},(∀ d∈ds,d.depth≤k)→PyData.depthAll ds≤k
 | [],_=>Nat.zero_le _
 | d :: ds,h=>by
  show max (PyData.depth d) (PyData.depthAll ds)≤k
  exact Nat.max_le.mpr ⟨h d List.mem_cons_self,depthAll_of fun e he=>h e (List.mem_cons_of_mem _ he)⟩
theorem shaped_list {ds:List PyData} (h:∀ d∈ds,Sh d):SeqAt.shaped (.list ds)=true:=by
 have h1:PyData.canLay0 (.list ds)=true:=canLayAll_of fun d hd=>(h d hd).1
 have h2:PyData.depth (.list ds)≤11:=Nat.succ_le_succ (depthAll_of fun d hd=>(h d hd).2)
 unfold SeqAt.shaped
 rw [h1,decide_eq_true (Nat.le_trans h2 (by decide))] <;> rfl
theorem shaped_tuple {ds:List PyData} (h:∀ d∈ds,Sh d):SeqAt.shaped (.tuple ds)=true:=by
 have h1:PyData.canLay0 (.tuple ds)=true:=canLayAll_of fun d hd=>(h d hd).1
 have h2:PyData.depth (.tuple ds)≤11:=Nat.succ_le_succ (depthAll_of fun d hd=>(h d hd).2)
 unfold SeqAt.shaped
 rw [h1,decide_eq_true (Nat.le_trans h2 (by decide))] <;> rfl
theorem sh_seq {k:Nat} {ds:List PyData} (h:∀ d∈ds,d.canLay0=true∧d.depth≤k) (hk:k≤9):Sh (.list ds)∧Sh (.tuple ds):=by
 have h1:PyData.canLayAll0 ds=true:=canLayAll_of fun d hd=>(h d hd).1
 have h2:PyData.depthAll ds+1≤10:=Nat.succ_le_succ (Nat.le_trans (depthAll_of fun d hd=>(h d hd).2) hk)
 exact ⟨⟨h1,h2⟩,⟨h1,h2⟩⟩
theorem eqv_list {a b:List PyData}:PyData.eqv (.list a) (.list b)=PyData.eqvAll a b:=by rw [PyData.eqv]
section
variable {K:PySem.W.Frag} {H H':Hp}
mutual
theorem Dp.mono (e:Same H H'):∀ {v:V} {d:PyData},Dp K H v d→Dp K H' v d
 | _,_,.non=>.non
 | _,_,.bl b=>.bl b
 | _,_,.int i=>.int i
 | _,_,.str x=>.str x
 | _,_,.lst h q=>.lst (L2.Same.seq e h) (DpAll.mono e q)
 | _,_,.tup h q=>.tup (Same.sqT e h) (DpAll.mono e q)
theorem DpAll.mono (e:Same H H'):∀ {vs:List V} {ds:List PyData},DpAll K H vs ds→DpAll K H' vs ds
 | _,_,.nil=>.nil
 | _,_,.cons h q=>.cons (Dp.mono e h) (DpAll.mono e q)
end
theorem DpAll.length:∀ {vs:List V} {ds:List PyData},DpAll K H vs ds→vs.length=ds.length
 | _,_,.nil=>rfl
 | _,_,.cons _ q=>congrArg Nat.succ (DpAll.length q)
theorem DpAll.get:∀ {vs:List V} {ds:List PyData} {i:Nat} {v:V},DpAll K H vs ds→vs[i]? = some v→∃ d,ds[i]? = some d∧Dp K H v d
 | _,_,_,_,.nil,e=>by simp at e
 | _,_,0,v,.cons (v:=v') h _,e=>by
  have:v'=v:=Option.some.inj e
  subst this
  exact ⟨_,rfl,h⟩
 | _,_,i+1,v,.cons _ q,e=>by
  obtain ⟨d,h1,h2⟩:=DpAll.get (i:=i) q (by simpa using e)
  exact ⟨d,by simpa using h1,h2⟩
theorem DpAll.snoc:∀ {vs:List V} {ds:List PyData} {v:V} {d:PyData},DpAll K H vs ds→Dp K H v d→DpAll K H (vs++[v]) (ds++[d])
 | _,_,_,_,.nil,h=>.cons h .nil
 | _,_,_,_,.cons h q,h'=>.cons h (DpAll.snoc q h')
end
section
variable {X:Cx} {K:PySem.W.Frag}
theorem op_in_seqK (hK:X.K=K):OpR X (compareOp .In) (rIn K false):=hK ▸ op_in_seq
theorem op_notIn_seqK (hK:X.K=K):OpR X (compareOp .NotIn) (rIn K true):=hK ▸ op_notIn_seq
theorem pe_fldK {e:Expr} {ta:TE} {f:Str} {pos:Pos} (hK:X.K=K) (he:PE X e ta) (hb:attributeBase e f X.env (eval e X.env)=eval e X.env):PE X (.Attribute e f pos) (tFld K ta f):=hK ▸ pe_fld he hb
end
theorem lt_line {n:Nat} (h:n≤100000):n < sizeLine:=Nat.lt_of_le_of_lt h (by decide)
theorem le_line {n:Nat} (h:n≤100000):n≤sizeLine:=Nat.le_of_lt (lt_line h)
theorem ixN_nat {m len:Nat} (h:m < len):ixN len (m:Int)=some m:=by
 unfold ixN
 rw [if_pos (by omega),if_pos (by omega)]
 simp
theorem ifT {b:Bool} {A B:Prop} (hb:b=true) (h:A):if b=true then A else B:=by
 subst hb
 exact iteT h
theorem ifF {b:Bool} {A B:Prop} (hb:b=false) (h:B):if b=true then A else B:=by
 subst hb
 exact iteF h
end SB
namespace SB
open PySem PySem.Spec PyProof.Rows L2
def CPowM (i j:Int):Prop:=0≤j∧j≤1000∧i.natAbs < 2 ^ 200
theorem op_powM {X:Cx}:OpR X (binaryOp .Pow) (rI CPowM fun i j=>.int (i ^ j.toNat)):=opI fun i j _ _ _ _ _ hc q=>by
 refine pow_int hc.1 ?_ q
 have h1:Builtin.Int.intBits i≤200:=PySem.intBits_le_iff.mpr hc.2.2
 have h2:(Builtin.Int.intBits i:Int) * j≤200 * 1000:=Int.mul_le_mul (by omega) hc.2.1 hc.1 (by decide)
 omega
end SB
namespace SB
open PySem PySem.Spec PyProof.Rows L2 NdefX
section
variable {X:Cx} {pins:List (Addr × Obj)} {σ:L2.St} {H:Hp} {s:Shared} {a C u:Addr}
theorem call_mw {A:Around} {E:Value→Shared→Prop} {us:List Value} {Q:Value→Shared→Prop} (T:OexC X.K C) (I:Inv X pins σ H s) (e:H a=some (exo a C none)) (hu:s.heap.get? u=some (PySem.W.kxs_mw "ValueError.__init__" a)) (hl:us.length≤sizeLine)
  (h:∀ s',Inv X pins σ H s'→Q .none s'):wpAny (model X.prog X.w) A (call (.ref u) us) Q E s:=by
 obtain ⟨nm,q,N,bs,bm,sn,sub,ab,col,dd,k0,k1,k2,k3,k5,hC,hbm⟩:=T.cls
 obtain ⟨t1,ho⟩:=exo_at I.hok e
 have FB:=F.excBase_ValueError
 have hC':=I.kIn _ _ hC
 have fin:∀ h',(∀ b o,b≠a→s.heap.get? b=some o→h'.get? b=some o)→(∃ t2:Addr,h'.get? a=some ({ cls:=.ref C,dict:=none,data:=.fields #[.ref t2,.none,.none,.none,.bool false,.none] }:Obj))→Q .none { s with heap:=h' }:=fun h' k hx=>by
  obtain ⟨t2,hx⟩:=hx
  have J:=I.write (t':=s.toks) (x:=a) (e:=a) (o:=exo a C none) (by rw [e]; exact True.intro) (.inl rfl) k ⟨_,hx⟩ (exo_ok hx)
  have eu:upd H a (exo a C none)=H:=by
   funext b
   by_cases hb:b=a
   ·rw [hb,upd_same,e]
   ·rw [upd_ne hb]
  rw [eu] at J
  exact h _ J
 obtain ⟨hh,g,d,tk,os⟩:=s
 refine wpAny_call (codeAny_of_tree ?_)
 show wpAny _ A.in1 (callAny (.ref u) ⟨us,[]⟩) _ _ _
 simp only [callAny]
 refine wpAny_bind (wpAny_load hu ?_)
 simp only [PySem.W.kxs_mw,show (Value.type "method-wrapper" == Value.type "method" || Value.type "method-wrapper" == Value.type "builtin_function_or_method" || Value.type "method-wrapper" == Value.type "method-wrapper")=true by decide,if_true]
 refine PySem.W.KFB.if_so (by decide) ?_
 refine wpAny_bind (PySem.W.check_bound_init FB.toExcCallFacts hC' ho rfl ?_)
 refine wpAny_bind (wpAny_pure (wpAny_pure ?_))
 refine ⟨plainId_quiet FB.init.plain _,codeAny_builtin FB.initEntry ?_⟩
 refine PySem.W.exc_init_tree (cls:=.ref C) (t0:=t1) (dv:=none) (c2:=.none) (c3:=.none) (b4:=.bool false) ho hl fun h' k e' _=>fin h' k ⟨_,e'⟩
end
def tSup (K:PySem.W.Frag) (D:Addr) (ta:TA) (t:TS):TS:=fun E σ H=>∃ a C:Addr,σ[0]? = some (some (.ref a))∧OexC K C∧H a=some (exo a C none)∧PySem.W.mroIn K C (.ref D)=some true ∧
 PySem.W.ks_superIn K C D "__init__"=some (some (.builtin "ValueError.__init__"))∧PySem.W.subIn K (.ref C) (.type "ValueError")=some true ∧
 ta σ H fun us H1=>us.length≤1000∧H1 a=some (exo a C none)∧t E σ H1
theorem fn_sup {CX:CXT} {P:Program} {w:World} {K:PySem.W.Frag} {mg:Str→Option Value} {base:Heap} {k:Nat} {f cc cda D:Addr} {name qual:Str} {params:Arguments} {p0 p1 apos cpos pos:Pos} {e:Expr} {es:List Expr} {rest:List Stmt} {scope:Scope}
  {dV kV doc pm ct oc ccl cl:Value} {an od cdd cld:Option Addr} {osl ccs csl:Array (Option Value)} {N ps:List Str} {sp:Sp} {ar:Arg} {vs0:Array Value} {file:Str} {tf:Tok} {cdD:ClassData}
  (lk:K.lookup f=some ⟨oc,od,.func (PySem.W.ksFn name qual params (.Expr (.Call (.Attribute (.Call (.Name "super" p0) [] [] p1) "__init__" apos) (e :: es) [] cpos) pos :: rest) scope dV kV doc pm an (.ref cda) ct cc),osl⟩)
  (hcd:PySem.W.codeIn K (.ref cda) qual=true) (S:NScope N ps ["__class__"] scope) (hp:(params.posonlyargs++params.args).head? = some ar) (hps:ps[0]? = some ar.arg)
  (hcode:K.lookup cda=some ⟨ccl,cdd,.fields vs0,ccs⟩) (hvs:vs0[2]? = some (.str file tf)) (hfile:((P.main.file:Str) == file)=true)
  (hcell:K.lookup cc=some ⟨cl,cld,.cell (some (.ref D)),csl⟩) (hD:PySem.W.clsIn K D=some cdD) (hks:scope.names.lookup ("super" : Str)=some .globalImplicit)
  (htop:(P.main.scope.names.lookup ("super" : Str)).isSome=false) (hsu:mg "super"=none) (hth:PySem.W.nsIn K cStatics "thirdparty.any"=some none)
  (len:∀ vs H Q E,sp vs H Q E→vs.length=ps.length)
  (hbody:∀ (A:Around) (outer:List Env) (s:Shared) (H:Hp) (vs:List V) (Q:VK) (E:XK),Room k (A.deeper (envF ⟨name,qual,params,(.Expr (.Call (.Attribute (.Call (.Name "super" p0) [] [] p1) "__init__" apos) (e :: es) [] cpos) pos :: rest),scope,[("__class__",cc)],cda⟩ f s.heap.objs.size))→sp vs H Q E →
   ∃ ta t,PA (ncx CX P w K mg base N ⟨name,qual,params,(.Expr (.Call (.Attribute (.Call (.Name "super" p0) [] [] p1) "__init__" apos) (e :: es) [] cpos) pos :: rest),scope,[("__class__",cc)],cda⟩ f A outer s H E) (e :: es) ta ∧
    PSs (ncx CX P w K mg base N ⟨name,qual,params,(.Expr (.Call (.Attribute (.Call (.Name "super" p0) [] [] p1) "__init__" apos) (e :: es) [] cpos) pos :: rest),scope,[("__class__",cc)],cda⟩ f A outer s H E) rest t ∧
    tSup K D ta t { nx:=fun _ H'=>Q .non H',rt:=Q } (startF N vs [none]) H)
  (he:∀ env:Env,starEach (e :: es) env=(false,eval e env) :: starEach es env:=by intro _; rfl) (hpl:∀ env:Env,(backTo cpos (starEach es env)).any (·.1)=false:=by intro _; rfl)
  {pl:Env→Sem Bool} (ht:∀ env:Env,eval (.Call (.Attribute (.Call (.Name "super" p0) [] [] p1) "__init__" apos) (e :: es) [] cpos) env=(do
   let ov ← attributeBase (.Call (.Name "super" p0) [] [] p1) "__init__" env (eval (.Call (.Name "super" p0) [] [] p1) env)
   standAt apos.atName
   let (f,first) ← holding [ov] (getMethod ov "__init__" (pl env))
   callWith cpos f first (backTo cpos (starEach (e :: es) env)) []):=by intro _; rfl)
  (hs:∀ env:Env,swapsWith (.Call (.Attribute (.Call (.Name "super" p0) [] [] p1) "__init__" apos) (e :: es) [] cpos) none pos.line env=pure false:=by intro _; rfl) :
  FnOk P w K mg base CX (k+1) f (PySem.W.ksFn name qual params (.Expr (.Call (.Attribute (.Call (.Name "super" p0) [] [] p1) "__init__" apos) (e :: es) [] cpos) pos :: rest) scope dV kV doc pm an (.ref cda) ct cc) ps sp:=by
 refine ⟨len,fun A outer s H args us vs Q E hr e0 hb r hsp=>?_⟩
 have hl:=len _ _ _ _ hsp
 have KX:K.In s.heap:=e0.mod.kin.keeps fun b o e=>(e0.bs b o e).1
 have lim:s.heap.NoLimit:=e0.mod.nolimit.keeps fun b o e=>(e0.bs b o e).1
 have KB:∀ b o,K.lookup b=some o→base.get? b=some o:=fun b o z=>e0.mod.kin _ _ z
 refine ks_codeAny_call_defAt (fd:=PySem.W.ksFn name qual params (.Expr (.Call (.Attribute (.Call (.Name "super" p0) [] [] p1) "__init__" apos) (e :: es) [] cpos) pos :: rest) scope dV kV doc pm an (.ref cda) ct cc) (binds:=ps.zip us) hr.depth (KX _ _ lk) rfl lim (PySem.W.codeRec_of KX hcd) rfl hb S.nocell
  (fun ⟨n,_⟩ hy=>S.par n (List.of_mem_zip hy).1) (fun h₁ hns kp=>?_) S.co S.gen S.kind
 obtain ⟨ta,t,hA,hR,a,C,h0,T,ea,hm,hsi,hsub,hta⟩:=hbody A outer s H vs Q E (hr.deeper _) hsp
 have C0:CellsAt [(("__class__" : Str),cc)] ["__class__"] [none] s.heap H:=by
  refine ⟨rfl,fun y c z=>?_,fun x y c z1 z2=>?_,fun i y z=>?_⟩
  ·have e1:(y,c)∈[(("__class__" : Str),cc)]:=PySem.mem_of_lookup z
   have e2:(y,c)=(("__class__" : Str),cc):=List.mem_singleton.mp e1
   cases e2
   exact ⟨(e0.bs _ _ (KB _ _ hcell)).2,_,_,KX _ _ hcell,rfl⟩
  ·have e1:(x,c)∈[(("__class__" : Str),cc)]:=PySem.mem_of_lookup z1
   have e2:(y,c)∈[(("__class__" : Str),cc)]:=PySem.mem_of_lookup z2
   have e3:(x,c)=(("__class__" : Str),cc):=List.mem_singleton.mp e1
   have e4:(y,c)=(("__class__" : Str),cc):=List.mem_singleton.mp e2
   cases e3
   cases e4
   rfl
  ·cases i with
   | zero =>
    have:("__class__" : Str)=y:=by simpa using z
    subst this
    exact ⟨cc,by simp [List.lookup],fun v q=>by simp at q⟩
   | succ i=>simp at z
 have I:=inv_startN (CX:=CX) (tk:=s.toks+(ps.zip us).length) (F:=⟨name,qual,params,(.Expr (.Call (.Attribute (.Call (.Name "super" p0) [] [] p1) "__init__" apos) (e :: es) [] cpos) pos :: rest),scope,[("__class__",cc)],cda⟩) (f:=f) (E:=E) S hr.hd e0 hl r C0 hns kp
 obtain ⟨m,hn,hlk⟩:=id I.loc
 obtain ⟨mb,b1,b2⟩:=id I.mod.blt
 have hN0:N[0]? = some ar.arg:=by
  have q:=S.pre
  cases ps with
  | nil=>simp at hps
  | cons p ps =>
   have e1:p=ar.arg:=by simpa using hps
   subst e1
   cases N with
   | nil=>simp at q
   | cons n N =>
    have q':n :: N.take (ps.length+1)=ar.arg :: (ps++[("__class__" : Str)]):=by
     have:(ar.arg :: ps).length + [("__class__" : Str)].length=ps.length+1+1:=rfl
     rw [this,List.take_succ_cons] at q
     exact q
    injection q' with q1 q2
    rw [q1]
    rfl
 have hka:scope.names.lookup ar.arg=some .local:=S.par _ (List.mem_of_getElem? hps)
 obtain ⟨u0,ru,lku⟩:=hlk 0 ar.arg (.ref a) hN0 h0 (.inl hka)
 have hma:m ar.arg=some (.ref a):=by
  cases ru
  rcases lku with ⟨_,z⟩ | ⟨z,_⟩
  ·exact z
  ·have z':scope.names.lookup ar.arg=some .cell∨scope.names.lookup ar.arg=some .free:=z
   rw [hka] at z'
   rcases z' with z' | z' <;> cases z'
 have hkc:scope.names.lookup ("__class__" : Str)=some .free:=S.frk _ (List.mem_singleton_self _)
 obtain ⟨t1,hoa⟩:=exo_at I.hok ea
 obtain ⟨oD,hD1,hD2⟩ : ∃ oD,h₁.get? D=some oD∧oD.data=.cls cdD:=by
  unfold PySem.W.clsIn at hD
  split at hD
  ·rename_i c d cd' sl ho
   cases hD
   exact ⟨_,kp _ _ (KX _ _ ho),rfl⟩
  ·cases hD
 obtain ⟨nmC,qC,NC,bsC,bmC,snC,subC,abC,colC,ddC,k0,k1,k2,k3,k5,hC,hbm⟩:=id T.cls
 obtain ⟨cd,hc⟩ : ∃ cd,PySem.W.clsIn K C=some cd:=⟨_,by unfold PySem.W.clsIn; rw [hC] <;> rfl⟩
 unfold PySem.W.ks_superIn at hsi
 rw [hc] at hsi
 have J0:PySem.W.InstAt h₁ a { cls:=.ref C,dict:=none,data:=.fields #[.ref t1,.none,.none,.none,.bool false,.none] } C none:=⟨hoa,rfl,rfl,trivial⟩
 have X1:K.In h₁:=KX.keeps kp
 have hi:interactive (envF ⟨name,qual,params,(.Expr (.Call (.Attribute (.Call (.Name "super" p0) [] [] p1) "__init__" apos) (e :: es) [] cpos) pos :: rest),scope,[("__class__",cc)],cda⟩ f s.heap.objs.size)=false:=by
  have:=S.kind
  simp [interactive,this]
 obtain ⟨hh,g,d,tk,os⟩:=s
 refine ks_wpAt_execs_cons (ks_wpAt_Expr_any (ks_wpAt_MethodCall ?_ (ht _)) hi (hs _))
 refine ks_wpAt_super_base hks hkc (by decide) rfl (X1 _ _ lk) rfl hp rfl (X1 _ _ hcode) rfl hvs hfile htop ?_
 refine PySem.W.ks_loadName_global S.kind hks (Calls.loadGlobal_builtin (I.mod.glob.keeps I.bk) hsu (b1.keeps I.bk) ((b2 _ (by decide)).trans (by decide +kernel:bootBuiltins "super"=some (.type "super"))) ⟨rfl,?_⟩)
 refine wpAny_loadName_free S.kind hkc rfl ⟨_,X1 _ _ hcell,rfl⟩ ?_
 refine wpAny_loadName_local S.kind hka hn hma ?_
 refine ks_wpAny_isType_cls hD1 hD2 ⟨rfl,?_⟩
 refine ks_wpAny_call_super hD1 hD2 hoa rfl (fun c e=>by cases e) (PySem.W.looks_mroIn X1 hm) (fun h2 so k2=>?_)
 have I2:=I.kept (h':=h2) (t':=tk+(ps.zip us).length) k2
 obtain ⟨t2,hoa2⟩:=exo_at I2.hok ea
 have X2:K.In h2:=X1.keeps k2
 have J2:PySem.W.InstAt h2 a { cls:=.ref C,dict:=none,data:=.fields #[.ref t2,.none,.none,.none,.bool false,.none] } C none:=⟨hoa2,rfl,rfl,trivial⟩
 refine PySem.W.kxs_getMethod PySem.W.kxs_ValueError so (PySem.W.looks_opaque X2 hth) (l₀:=cd.mro) (fun A Q E s k q=>wpAny_bind ((PySem.W.looks_clsIn X2 hc) A _ E s k (wpAny_pure q))) rfl X2 hsi (J2.type.andThen (PySem.W.looks_subIn X2 hsub)) (PySem.W.ks_ne X2 J2 hc) (by decide) ?_
 have k3:∀ b o,h2.get? b=some o→(h2.push (PySem.W.kxs_mw "ValueError.__init__" a)).get? b=some o:=fun b o z=>Heap.get?_push_of_some _ z
 have I3:=I2.kept (h':=h2.push (PySem.W.kxs_mw "ValueError.__init__" a)) (t':=tk+(ps.zip us).length+1) k3
 have hu:(h2.push (PySem.W.kxs_mw "ValueError.__init__" a)).get? h2.objs.size=some (PySem.W.kxs_mw "ValueError.__init__" a):=Heap.get?_push_size _ rfl
 have I4:=I3.pins_of (pins':=[(h2.objs.size,PySem.W.kxs_mw "ValueError.__init__" a)]) fun p hp=>by
  have e1:p=(h2.objs.size,PySem.W.kxs_mw "ValueError.__init__" a):=by simpa using hp
  subst e1
  exact ⟨hu,I2.hok.fresh (Nat.le_refl _),Nat.ne_of_gt I2.lt,I2.nofs (Nat.le_refl _),fun v z=>by cases z⟩
 show wpAny _ _ (callWith cpos (.ref h2.objs.size) [] (backTo cpos (starEach (e :: es) _)) []) _ _ _
 have hrun:=hA.run cpos _ _ _ _ _ I4 hta
 rw [he] at hrun ⊢
 refine PySem.W.kxs_callWith (i:="ValueError.__init__") (x:=a) (by show (false || (backTo cpos (starEach es _)).any (·.1))=false; rw [hpl]; rfl) ?_
 refine Calls.evalArgs_plain (wpAny_mono hrun (fun us1 s1 hq=>?_) fun _ _ z=>z)
 obtain ⟨ws,H1,I5,r5,hz5,ea5,q5⟩:=hq
 have hu5:=(I5.pin (h2.objs.size,PySem.W.kxs_mw "ValueError.__init__" a) (List.mem_append_right _ (List.mem_singleton_self _))).1
 refine ⟨hu5,?_⟩
 refine call_mw (X:=ncx CX P w K mg base N ⟨name,qual,params,(.Expr (.Call (.Attribute (.Call (.Name "super" p0) [] [] p1) "__init__" apos) (e :: es) [] cpos) pos :: rest),scope,[("__class__",cc)],cda⟩ f A outer ⟨hh,g,d,tk,os⟩ H E) T I5 ea5 hu5 (by
  have:=r5.length
  rw [sizeLine_eq]
  show us1.length≤_
  omega) fun s6 I6=>?_
 refine wpAt_of_wpAny ?_
 have I7:=I6.pins_of (pins':=[]) fun p hp=>by simp at hp
 refine wpAny_mono (hR.run [] s6 _ H1 _ I7 q5) (fun fl s' hs=>?_) fun e s' hs=>hs
 have fin:∀ {σ':L2.St} {H':Hp} {v:V} {u:Value},Inv (ncx CX P w K mg base N ⟨name,qual,params,(.Expr (.Call (.Attribute (.Call (.Name "super" p0) [] [] p1) "__init__" apos) (e :: es) [] cpos) pos :: rest),scope,[("__class__",cc)],cda⟩ f A outer ⟨hh,g,d,tk,os⟩ H E) [] σ' H' s'→L2.RelV v u→Q v H'→CE outer P w H ⟨hh,g,d,tk,os⟩ Q u s':=
  fun {σ' H' v u} J rv q=>⟨v,H',J.os,J.bare,J.base,J.hok,rv,q⟩
 cases fl with
 | ret u =>
  obtain ⟨v,σ',H',J,rv,q⟩:=hs
  exact fin J rv q
 | next =>
  obtain ⟨σ',H',J,q⟩:=hs
  exact fin (v:=V.non) (u:=Value.none) J rfl q
 | brk =>
  obtain ⟨_,_,_,q⟩:=hs
  exact False.elim q
 | cont =>
  obtain ⟨_,_,_,q⟩:=hs
  exact False.elim q
end SB
namespace SB
open PySem PySem.Spec PyProof.Rows L2 NdefX
def Ends.gone (D:Ends) (i:Nat):Ends:={ nx:=fun σ' H'=>D.nx (σ'.set i none) H',rt:=D.rt,bk:=fun σ' H'=>D.bk (σ'.set i none) H',ct:=fun σ' H'=>D.ct (σ'.set i none) H' }
def wManyAs (K:PySem.W.Frag) (i:Nat) (Wout:WX) (D:Ends):List (Value × (Addr→Value→Option Addr→TS))→WX
 | []=>Wout
 | (c,ts) :: r=>fun cls d σ H=>∃ b,PySem.W.exmOne K cls c=some b∧(b=true→∀ a,H a=none→ts a cls d (Ends.gone D i) (σ.set i (some (.ref a))) H)∧(b=false→wManyAs K i Wout D r cls d σ H)
inductive HdsAs (X:Cx) (n:Str):List ExceptHandler→List (Value × (Addr→Value→Option Addr→TS))→Prop
 | nil:HdsAs X n [] []
 | cons {x:Str} {c:Value} {ts:Addr→Value→Option Addr→TS} {b₀:Stmt} {suite:List Stmt} {np pos':Pos} {hds:List ExceptHandler} {l:List (Value × (Addr→Value→Option Addr→TS))} (hc:Names X x c)
   (hsu:∀ (a:Addr) (oe:Obj) (cls:Value) (d:Option Addr) (pn:List (Addr × Obj)),Zc cls d oe→(∃ vs,oe.data=.fields vs)→PSs (X.suite a ((a,oe) :: pn)) (b₀ :: suite) (ts a cls d)) (r:HdsAs X n hds l) :
   HdsAs X n (.ExceptHandler (some (.Name x np)) (some n) (b₀ :: suite) pos' :: hds) ((c,ts) :: l)
section
variable {X:Cx} {body:List Stmt} {n:Str} {i:Nat} {h₀:ExceptHandler} {hds:List ExceptHandler} {l:List (Value × (Addr→Value→Option Addr→TS))} {pos:Pos} {tb:WX→TS} {Wout:WX}
theorem ps_try_manyAs (hs:X.stack=X.env :: X.outer) (hf:X.env.frame=some X.env.locals) (hN:X.N.Nodup) (hi:X.N[i]? = some n) (hln:X.env.kindOf n=some .local) (tk:Takes X Wout)
  (hb:∀ (W:WX) (pn:List (Addr × Obj)) (xe:Value→Shared→Prop),Takes (X.tr pn xe) W→PassesOwn (model X.prog X.w) X.A X.env xe→PSs (X.tr pn xe) body (tb W))
  (hh:HdsAs X n (h₀ :: hds) l):PS X (.Try body (h₀ :: hds) [] [] pos) (fun D σ H=>tb (wManyAs X.K i Wout D l) D σ H):=by
 refine ⟨fun pins s σ H D I h=>?_⟩
 have okX:=I.ok
 have frX:X.A.frames=some (X.env :: X.outer):=by rw [okX.frames,hs]
 have locn:Loc X.env.scope n:=.inl hln
 refine wpAny_Try_except ?_
 refine wpAny_mono ((hb (wManyAs X.K i Wout D l) (X.pn++pins) (fun e s₁=>wpAny (model X.prog X.w) X.A (noteFrame e X.env) (fun _ s₂=>wpAny (model X.prog X.w) X.A (setFlight e none) (fun _ s₃ =>
  wpAny (model X.prog X.w) X.A (handleBy e X.env (h₀ :: hds)) (SP X pins D) X.xe s₃) X.xe s₂) X.xe s₁) (fun u s' xx=>?_) PassesOwn.looking).run [] s σ H D (I.toTry _) h) (fun f s1 hsp=>?_) (fun e s1 he=>he)
 ·obtain ⟨a,B,sI,pins',σ',H',cls,d,rfl,JT,nb,up,sky,na,os,ag,wsh⟩:=xx
  have J:Inv X pins σ' H' sI:=JT.ofTry okX
  have skyX:Sky B (X.env :: X.outer) a (Zc cls d) X.env.locals s'.heap:=by rw [← hs]; exact sky
  show wpAny (model X.prog X.w) X.A (noteFrame (.ref a) X.env) _ _ _
  refine Sky.land Zc.steady frX hf skyX fun h3 fl3 up3=>?_
  have J3:Inv X pins σ' H' { s' with heap:=h3 }:=J.landed nb fl3.1 (up.trans up3) os ag
  obtain ⟨oe3,vs3,at3,z3,dt3⟩:=fl3.there
  have nfr:a∉frs (X.env :: X.outer):=fun hm=>by
   obtain ⟨_,o',e',hnf⟩:=fl3.2.2.1.mem hm
   rw [at3] at e'
   cases e'
   exact hnf _ dt3
  have nL:a≠X.env.locals:=fun z=>nfr (List.mem_filterMap.mpr ⟨X.env,List.mem_cons_self,by rw [hf,z]⟩)
  have nF:a∉X.fs:=fun hm=>by
   obtain ⟨e,he,q⟩:=List.mem_filterMap.mp hm
   exact nfr (List.mem_filterMap.mpr ⟨e,List.mem_cons_of_mem _ he,q⟩)
  have S3:=J3.suite at3 dt3 na nL nF
  have go:∀ {hd2:List ExceptHandler} {l2:List (Value × (Addr→Value→Option Addr→TS))},HdsAs X n hd2 l2→wManyAs X.K i Wout D l2 cls d σ' H' →
    wpAny (model X.prog X.w) X.A (handleBy (.ref a) X.env hd2) (SP X pins D) X.xe { s' with heap:=h3 }:=by
   intro hd2 l2 hk
   induction hk with
   | nil =>
    intro w
    refine wpAny_handleBy_nil ?_
    obtain ⟨_,_,_,oe,vs,T,oT,ts',he,hz,hd,h1,_⟩:=id fl3
    unfold PySem.passOn
    refine wpAny_bind (wpAny_field he hd h1 ?_)
    rw [if_neg (show ¬ ((Value.ref T == Value.none)=true) from by simp)]
    have fin:wpAny (model X.prog X.w) X.A (setFlight (.ref a) X.env.frame) (fun _ s4=>wpAny (model X.prog X.w) X.A (throw (.ref a):Sem Flow) (SP X pins D) X.xe s4) X.xe { s' with heap:=h3 }:=by
     rw [hf]
     refine HandSPX.setFlight_upZ fl3 fun h4 hh4 up4=>wpAny_throw (tk _ _ ?_)
     exact ⟨a,B,sI,pins,σ',H',cls,d,rfl,J,nb,(up.trans up3).trans up4,.inr (.inr (by rw [hs]; exact hh4)),na,os,ag,w⟩
    first
     | exact wpAny_bind (wpAny_pure (wpAny_bind fin))
     | exact wpAny_bind fin
   | @cons x c ts b₀ suite np pos' hds2 l3 hc hsu r ih =>
    intro w
    obtain ⟨b,hb1,yes,no⟩:=w
    refine wpAny_handleBy_cons (codeAny_handlers_test ?_) (by intro q; cases q)
    have lt:PySem.W.Looks (model X.prog X.w) h3 (typeOf (.ref a)) cls:=fun A Q E s k q=>wpAny_typeOf_ref (k _ _ at3) (by rw [z3.1]; exact q)
    have lm:=PySem.W.exm_one (M:=model X.prog X.w) (J3.kIn) lt hb1
    have tst:∀ {Q:Value→Shared→Prop} {E:Value→Shared→Prop},Q c { s' with heap:=h3 }→wpAny (model X.prog X.w) (X.A.mark (some (.ref a))) (eval (.Name x np) X.env) Q E { s' with heap:=h3 }:=fun {Q E} q=>by
     obtain ⟨hg,hdbg,hm | ⟨hm,hv,hnn⟩⟩:=hc
     ·exact ld_glob (X:=X.suite a ((a,oe3) :: (X.pn++pins))) S3 hg hm q hdbg
     ·exact ld_blt (X:=X.suite a ((a,oe3) :: (X.pn++pins))) S3 hg hm hv q hnn hdbg
    refine tst (lm.here ?_)
    cases b with
    | true =>
     refine codeAny_handlers_suite_as ?_
     refine HandSPX.lands_againZ fl3 fun h4 fl4 up4=>?_
     have J4:Inv X pins σ' H' { s' with heap:=h4 }:=J.landed nb fl4.1 ((up.trans up3).trans up4) os ag
     obtain ⟨oe4,vs4,at4,z4,dt4⟩:=fl4.there
     have S4:=J4.suite at4 dt4 na nL nF
     refine store_ok (X:=X.suite a ((a,oe4) :: (X.pn++pins))) (v:=.ref a) S4 hN hi locn rfl (fun s5 S5=>?_) (.inr hln)
     refine wpAny_mono ((hsu a oe4 cls d (X.pn++pins) z4 ⟨_,dt4⟩).run [] s5 _ H' _ S5 (yes rfl a na)) (fun f s6 hsp=>?_) (fun _ _ z=>False.elim z)
     have fin:∀ {σ6:L2.St} {H6:Hp} {Q:Shared→Prop},Inv (X.suite a ((a,oe4) :: (X.pn++pins))) [] σ6 H6 s6→(∀ s7,Inv X pins (σ6.set i none) H6 s7→Q s7) →
       wpAny (model X.prog X.w) X.A (do bindName X.env n .none; unbindBehindTheSuite X.env n pos') (fun _ s7=>Q s7) X.xe s6:=fun {σ6 H6 Q} S6 hq=>gone_ok (S6.unsuite okX) hN hi hln hq
     cases f with
     | next =>
      obtain ⟨_,_,S6,q6⟩:=hsp
      exact fin S6 fun s7 J7=>⟨_,_,J7,q6⟩
     | brk =>
      obtain ⟨_,_,S6,q6⟩:=hsp
      exact fin S6 fun s7 J7=>⟨_,_,J7,q6⟩
     | cont =>
      obtain ⟨_,_,S6,q6⟩:=hsp
      exact fin S6 fun s7 J7=>⟨_,_,J7,q6⟩
     | ret u =>
      obtain ⟨_,_,_,S6,r6,q6⟩:=hsp
      exact fin S6 fun s7 J7=>⟨_,_,_,J7,r6,q6⟩
    | false =>
     show wpAny _ X.A (handleBy (.ref a) X.env hds2) _ _ _
     exact ih (no rfl)
  exact go hh wsh
 ·cases f with
  | next =>
   obtain ⟨_,_,JT,q⟩:=hsp
   exact wpAny_execs_nil ⟨_,_,JT.ofTry okX,q⟩
  | brk =>
   obtain ⟨_,_,JT,q⟩:=hsp
   exact ⟨_,_,JT.ofTry okX,q⟩
  | cont =>
   obtain ⟨_,_,JT,q⟩:=hsp
   exact ⟨_,_,JT.ofTry okX,q⟩
  | ret u =>
   obtain ⟨_,_,_,JT,r,q⟩:=hsp
   exact ⟨_,_,_,JT.ofTry okX,r,q⟩
end
def spExc (C:Addr) (ns:List Str):Sp:=fun vs H Q _=>∃ (a:Addr) (ws:List V),vs=.ref a :: ws∧ws.length=ns.length∧H a=some (exo a C none) ∧
 ∀ (d:Addr) (H2:Hp),H d=none→d≠a→H2 a=some (exo a C (some d))→H2 d=some (exd d (ns.zip ws).reverse)→(∀ b,b≠a→b≠d→H2 b=H b)→Q .non H2
structure Xc (P:Program) (w:World) (K:PySem.W.Frag) (mg:Str→Option Value) (base:Heap) (k:Nat) (x:Str) (C:Addr) (ns:List Str):Prop where
 ex:∃ (fI:Addr) (fd:FuncData) (ps:List Str),OexC K C∧PySem.W.findIn K (.ref C) "__init__"=some (some (.ref fI))∧PySem.W.typeIn K (.ref fI)=some (.type "function")∧FnOk P w K mg base CX0 k fI fd ps (spExc C ns)∧Binds K fd ps []∧mg x=some (.ref C)
def tX (C:Addr) (ns:List Str) (ta:TA):L2.St→Hp→XK→Prop:=fun σ H Q=>ta σ H fun vs H1=>vs.length=ns.length∧vs.length≤1000∧∀ d,H1 d=none→Q (.ref C) (some d) (upd H1 d (.xd (ns.zip vs).reverse))
theorem pmk_x {X:Cx} {x:Str} {C:Addr} {ns:List Str} {k j:Nat} {e:Expr} {es:List Expr} {ta:TA} {p pos:Pos} (c:Xc X.prog X.w X.K X.mg X.base k x C ns) (hr:Room j X.A) (hk:k+1≤j) (hg:Gl X x) (ha:PA X (e :: es) ta)
  (hdb:(x == ("__debug__" : Str))=false:=by decide) (he:starEach (e :: es) X.env=(false,eval e X.env) :: starEach es X.env:=by rfl) (hpl:(backTo pos (starEach es X.env)).any (·.1)=false:=by rfl) :
  PMk X (.Call (.Name x p) (e :: es) [] pos) (tX C ns ta):=by
 obtain ⟨fI,fd,ps,T,iC,tI,F1,hb,hm⟩:=c.ex
 intro pins s σ H Q I h
 have im:PA X (e :: es) (fun σ H Q=>∃ R:List V→Hp→Prop,ta σ H R∧∀ vs H1,R vs H1→Q vs H1):=⟨fun pos pins s σ H Q I ⟨R,h1,h2⟩=>wpAny_mono (ha.run pos pins s σ H R I h1) (fun us s1 ⟨vs,H1,I1,r,q⟩=>⟨vs,H1,I1,r,h2 _ _ q⟩) fun _ _ z=>z⟩
 refine pmk_oex (CX:=CX0) (dvs:=[]) T iC tI F1 (hr.mono hk) hb .nil (fun _ _ _ _ _ _ _ z=>z.elim) hg hm im hdb he hpl pins s σ H Q I ⟨_,h,fun vs H1 hq=>?_⟩
 obtain ⟨hl,hz,q⟩:=hq
 refine ⟨hz,fun a na=>⟨a,vs,by rw [List.append_nil],hl,upd_same,fun d H2 nd nda ea ed same=>⟨rfl,d,_,ea,ed,?_,?_⟩⟩⟩
 ·rw [upd_ne nda] at nd
  exact nd
 ·have nd':H1 d=none:=by
   rw [upd_ne nda] at nd
   exact nd
  have e1:upd (del H2 a) d (.xd (ns.zip vs).reverse)=upd H1 d (.xd (ns.zip vs).reverse):=by
   funext b
   by_cases hbd:b=d
   ·rw [hbd,upd_same,upd_same]
   ·rw [upd_ne hbd,upd_ne hbd]
    by_cases hba:b=a
    ·rw [hba,del_same,na]
    ·rw [del_ne hba,same b hba hbd,upd_ne hba]
  rw [e1]
  exact q d nd'
structure XcF (P:Program) (K:PySem.W.Frag) (mg:Str→Option Value) (x:Str) (C fI:Addr):Prop where
 oex:OexC K C
 ini:PySem.W.findIn K (.ref C) "__init__"=some (some (.ref fI))
 tyI:PySem.W.typeIn K (.ref fI)=some (.type "function")
 cls:∃ cd,PySem.W.clsIn K C=some cd
 mro:PySem.W.mroIn K C (.ref C)=some true
 sup:PySem.W.ks_superIn K C C "__init__"=some (some (.builtin "ValueError.__init__"))
 sub:PySem.W.subIn K (.ref C) (.type "ValueError")=some true
 thi:PySem.W.nsIn K cStatics "thirdparty.any"=some none
 top:(P.main.scope.names.lookup ("super" : Str)).isSome=false
 nsu:mg "super"=none
 nam:mg x=some (.ref C)
def FileIs (P:Program) (K:PySem.W.Frag) (cda:Addr):Prop:=∃ ccl cdd vs0 ccs file tf,K.lookup cda=some ⟨ccl,cdd,.fields vs0,ccs⟩∧vs0[2]? = some (.str file tf)∧((P.main.file:Str) == file)=true
def CellIs (K:PySem.W.Frag) (cc C:Addr):Prop:=∃ cl cld csl,K.lookup cc=some ⟨cl,cld,.cell (some (.ref C)),csl⟩
section
variable {P:Program} {w:World} {K:PySem.W.Frag} {mg:Str→Option Value} {base:Heap} {x:Str} {C f cc cda:Addr} {qual:Str} {params:Arguments} {p0 p1 apos cpos pos q1 q2 q3 q4 q5 q6 q7 q8 ps1:Pos} {msg:Str} {j:Nat} {scope:Scope} {dV kV doc pm ct oc:Value} {an od:Option Addr} {osl:Array (Option Value)} {ar:Arg} {v v2 f1 f2:Str}
theorem ok_x1 (T:XcF P K mg x C f)
  (lk:K.lookup f=some ⟨oc,od,.func (PySem.W.ksFn "__init__" qual params [.Expr (.Call (.Attribute (.Call (.Name "super" p0) [] [] p1) "__init__" apos) [.Constant (.str msg) j ps1] [] cpos) pos,.Assign [.Attribute (.Name "self" q1) f1 q2] (.Name v q3) q4] scope dV kV doc pm an (.ref cda) ct cc),osl⟩)
  (hcd:PySem.W.codeIn K (.ref cda) qual=true) (S:NScope ["self",v,"__class__"] ["self",v] ["__class__"] scope) (hp:(params.posonlyargs++params.args).head? = some ar) (har:ar.arg = "self") (hF:FileIs P K cda) (hc:CellIs K cc C)
  (hks:scope.names.lookup ("super" : Str)=some .globalImplicit) (hno:PySem.W.findIn K (.ref C) f1=some none) (hv1:(v == ("__debug__" : Str))=false) (hv2:(v == ("__classdict__" : Str))=false) (hb:Binds K (PySem.W.ksFn "__init__" qual params [.Expr (.Call (.Attribute (.Call (.Name "super" p0) [] [] p1) "__init__" apos) [.Constant (.str msg) j ps1] [] cpos) pos,.Assign [.Attribute (.Name "self" q1) f1 q2] (.Name v q3) q4] scope dV kV doc pm an (.ref cda) ct cc) ["self",v] [])
  {pl:Env→Sem Bool} (ht:∀ env:Env,eval (.Call (.Attribute (.Call (.Name "super" p0) [] [] p1) "__init__" apos) [.Constant (.str msg) j ps1] [] cpos) env=(do
   let ov ← attributeBase (.Call (.Name "super" p0) [] [] p1) "__init__" env (eval (.Call (.Name "super" p0) [] [] p1) env)
   standAt apos.atName
   let (f,first) ← holding [ov] (getMethod ov "__init__" (pl env))
   callWith cpos f first (backTo cpos (starEach [.Constant (.str msg) j ps1] env)) []):=by intro _; rfl):Xc P w K mg base 1 x C [f1]:=by
 obtain ⟨ccl,cdd,vs0,ccs,file,tf,h1,h2,h3⟩:=hF
 obtain ⟨cl,cld,csl,h4⟩:=hc
 obtain ⟨cd,h5⟩:=T.cls
 refine ⟨f,_,["self",v],T.oex,T.ini,T.tyI,?_,hb,T.nam⟩
 refine fn_sup (CX:=CX0) (k:=0) (N:=["self",v,"__class__"]) lk hcd S hp (by rw [har]; rfl) h1 h2 h3 h4 h5 hks T.top T.nsu T.thi (fun vs H Q E h=>?_) (fun A outer s H vs Q E hr h=>?_) (fun _=>rfl) (fun _=>rfl) ht
 ·obtain ⟨a,ws,rfl,hl,_⟩:=h
  show ws.length+1=2
  rw [hl] <;> rfl
 ·obtain ⟨a,ws,rfl,hl,ea,k⟩:=h
  match ws,hl with
  | [y],_ =>
   refine ⟨_,_,pa_cons pe_str pa_nil,pss_one (ps_ost (pe_var (i:=0) rfl (.inl (S.par _ (by simp)))) (pe_var (i:=1) rfl (.inl (S.par _ (by simp))) hv1 hv2)),?_⟩
   refine ⟨a,C,rfl,T.oex,ea,T.mro,T.sup,T.sub,?_⟩
   refine ⟨by show 1≤1000; decide,ea,?_⟩
   refine ⟨y,rfl,.ref a,rfl,a,C,rfl,T.oex,hno,.inl ⟨ea,fun dx nd ne=>?_⟩⟩
   exact k dx _ nd ne upd_same (by rw [upd_ne ne,upd_same]; rfl) fun b h1 h2=>by rw [upd_ne h1,upd_ne h2]
end
end SB
namespace SB
open PySem PySem.Spec PyProof.Rows L2 NdefX LamX
abbrev Rc:=Addr × Str × List Str
def taF (a:Addr) (cls:Value) (d:Option Addr) (C:Addr):List Str→TA
 | []=>tNil
 | f :: r=>tCons (tXf a cls d C f (tVar 1)) (taF a cls d C r)
def tsR (r:Rc) (a:Addr) (cls:Value) (d:Option Addr):TS:=tRet (tTup (tCons (tC (.str r.2.1)) (taF a cls d r.1 r.2.2)))
theorem hd2 {X:Cx} {K:PySem.W.Frag} {x nm f1 f2 n:Str} {C:Addr} {np pos' p1 p2 p3 p4 p5 p6 p7:Pos} {j j2:Nat} {hds:List ExceptHandler} {l:List (Value × (Addr→Value→Option Addr→TS))} (hK:X.K=K) (hN:X.N[1]? = some n) (hv:Vis X.env.scope n) (hc:Names X x (.ref C)) (T:XfC K C) (hno:PySem.W.findIn K (.ref C) f1=some none) (hno2:PySem.W.findIn K (.ref C) f2=some none)
  (hd:(n == ("__debug__" : Str))=false) (hcd:(n == ("__classdict__" : Str))=false) (r:HdsAs X n hds l) :
  HdsAs X n (.ExceptHandler (some (.Name x np)) (some n) [.Return (some (.Tuple [.Constant (.str nm) j p1,.Attribute (.Name n p2) f1 p3,.Attribute (.Name n p6) f2 p7] j2 p4)) p5] pos' :: hds) ((.ref C,tsR (C,nm,[f1,f2])) :: l):=by
 subst hK
 refine .cons hc (fun a oe cls d pn hz hf=>?_) r
 exact pss_one (ps_ret (pe_tup (pa_cons pe_str (pa_cons (pe_xf T hno hz hf (pe_var (i:=1) hN hv hd hcd)) (pa_cons (pe_xf T hno2 hz hf (pe_var (i:=1) hN hv hd hcd)) pa_nil)))))
theorem passL {X:Cx} {E:XK} {E₁:Value→Shared→Prop} (hs:X.stack=X.env :: X.outer) (hf:X.env.frame=some X.env.locals) (hex:X.ex=[])
  (hx:X.xe=fun e s'=>wpAny (model X.prog X.w) X.A (leaving X.env e) (fun _ s''=>L2.CX X.prog X.w X.outer X.H_0 X.s_0 E e s'') E₁ s'):Passes (L2.CX X.prog X.w) X E:=passes_call (takes_of hs hf hex hx) fun _ _ _ _ h=>h
section
variable {P:Program} {w:World} {K:PySem.W.Frag} {mg:Str→Option Value} {base:Heap} {x qual:Str} {st:Stmt} {f c:Addr} {fd:FuncData} {N ps:List Str} {k:Nat} {sp:Sp}
theorem okX {CX:CXT} (F:Fun K x qual st f fd) (S:FnScope N ps (defScope st)) (len:∀ vs H Q E,sp vs H Q E→vs.length=ps.length)
  (hbody:∀ (cdv:Value) (A:Around) (outer:List Env) (s:Shared) (H:Hp) (vs:List V) (Q:VK) (E:XK),Room k (A.deeper (envOfC qual (defScope st) s.heap.objs.size f cdv))→sp vs H Q E →
   ∃ t,PSs (cxOf CX P w K mg base N qual (defScope st) f cdv A outer s H E) (defBody st) t∧t { nx:=fun _ H'=>Q .non H',rt:=Q } (start N vs) H):FnOk P w K mg base CX (k+1) f fd ps sp:=by
 obtain ⟨oc,od,kV,doc,pm,an,cdv,ct,osl,rfl,lk,hcd⟩:=F.ex
 exact fn_of lk hcd S len fun A outer s H vs Q E hr hsp=>hbody cdv A outer s H vs Q E hr hsp
theorem fnrX {CX:CXT} (F:Fun K x qual st f fd) (S:FnScope N ps (defScope st)) (len:∀ vs H Q E,sp vs H Q E→vs.length=ps.length)
  (hb:∀ (kV doc pm:Value) (an:Option Addr) (cdv ct:Value) (us:List Value),us.length=ps.length→bindArgs (PySem.W.fnOf x qual (defArgs st) (defBody st) (defScope st) .none kV doc pm an cdv ct) ⟨us,[]⟩=pure (ps.zip us))
  (hbody:∀ (cdv:Value) (A:Around) (outer:List Env) (s:Shared) (H:Hp) (vs:List V) (Q:VK) (E:XK),Room k (A.deeper (envOfC qual (defScope st) s.heap.objs.size f cdv))→sp vs H Q E →
   ∃ t,PSs (cxOf CX P w K mg base N qual (defScope st) f cdv A outer s H E) (defBody st) t∧t { nx:=fun _ H'=>Q .non H',rt:=Q } (start N vs) H):FnR P w K mg base CX (k+1) f sp:=
 FnOk.r (okX F S len hbody) (F.binds hb)
end
end SB
namespace SB
open PySem PySem.Spec PyProof.Rows L2
section
variable {X:Cx} {CX:CXT} {k j:Nat} {C:Addr} {x m:Str} {sp:Sp} {E:XK} {p pos apos:Pos} {e o:Expr} {es:List Expr} {ta tb:TE} {t:TA}
end
section
variable {M:Model} {prog:Program} {w:World} {A:Around} {E:Value→Shared→Prop} {s:Shared} {K:PySem.W.Frag} {x C f:Addr} {ox:Obj} {od:Option Obj}
end
section
variable {X:Cx} {CX:CXT} {k j:Nat} {C:Addr} {sp:Sp} {E:XK}
end
end SB
namespace SB
open PySem PySem.Spec PyProof.Rows L2
theorem pe_mo {X:Cx} {CX:CXT} {k j:Nat} {C:Addr} {m:Str} {sp:Sp} {E:XK} {o e:Expr} {es:List Expr} {ta:TE} {t:TA} {apos pos:Pos} {pl:Sem Bool} (he:PE X o ta) (cl:Cls X.K C) (c:Me X.prog X.w X.K X.mg X.base CX k C m sp) (hr:Room j X.A) (hk:k≤j) (hx:Passes CX X E) (ha:PA X (e :: es) t)
  (hst:starEach (e :: es) X.env=(false,eval e X.env) :: starEach es X.env:=by rfl) (hpl:(backTo pos (starEach es X.env)).any (·.1)=false:=by rfl)
  (ht:eval (.Call (.Attribute o m apos) (e :: es) [] pos) X.env=(do
   let ov ← eval o X.env
   standAt apos.atName
   let (f,first) ← holding [ov] (getMethod ov m pl)
   callWith pos f first (backTo pos (starEach (e :: es) X.env)) (backToKw pos (keywordEach [] X.env))):=by rfl) :
  PE X (.Call (.Attribute o m apos) (e :: es) [] pos) (tMethR C m sp E ta t):=by
 obtain ⟨g,F,h1,h2,h3⟩:=c.ex
 exact pe_methR he cl ⟨h1,h2,h3⟩ F (hr.mono hk) hx ha hst hpl ht
def FzT (H:Hp) (p:Addr) (xs:List V):Prop:=∃ o,H p=some (.frz o (.tup xs))∧o.dict=none
theorem FzT.same {H H':Hp} {p:Addr} {xs:List V} (h:FzT H p xs) (e:Same H H'):FzT H' p xs:=by
 obtain ⟨o,h,hd⟩:=h
 exact ⟨o,e _ _ h,hd⟩
theorem call_tupleF {X:Cx}:CallR X (.type "tuple") (fun xs H Q=>∃ p ys,xs=[.ref p]∧((SqL X.K H p ys∧∀ l H',H l=none→(∀ b,b≠l→H' b=H b)→FzT H' l ys→Q (.ref l) H')∨(SqT X.K H p ys∧Q (.ref p) H))):=by
 intro pins s σ H xs us Q I r h
 obtain ⟨p,ys,rfl,h⟩:=h
 obtain ⟨u,rfl,rx⟩:=r.one
 cases (show u=Value.ref p from rx)
 rcases h with ⟨hq,q⟩ | ⟨hq,q⟩
 ·obtain ⟨its,r',pl,hz⟩:=I.list hq
  have hlen:=r'.length
  refine call_tuple_list pl.isList (fun h' kp=>?_) (by simp only [List.size_toArray] <;> omega)
  have I1:Inv X pins σ H { s with heap:=h' }:=I.kept (t':=s.toks) kp
  have I2:Inv X pins σ (upd H h'.objs.size (.frz { cls:=.type "tuple",data:=.seq its.toArray } (.tup ys))) { s with heap:=h'.push { cls:=.type "tuple",data:=.seq its.toArray } }:=
   I1.laid (t':=s.toks) (fun b o e=>Heap.get?_push_of_some _ e) (Nat.le_refl _) (show ObjOk X.prog X.w _ _ _ (.frz _ (.tup ys)) from ⟨Heap.get?_push_size _ rfl,hz,its,r',IsTup.new _ _⟩)
  exact ⟨.ref h'.objs.size,_,I2,rfl,q _ _ (I1.hok.fresh (Nat.le_refl _)) (fun b hb=>upd_ne hb) ⟨_,upd_same,rfl⟩⟩
 ·obtain ⟨its,r',pl,hz⟩:=I.tuple hq
  exact call_tuple_same pl ⟨.ref p,H,I,rfl,q⟩
end SB
namespace SB
open PySem PySem.Spec PyProof.Rows L2 StX
section
variable {X:Cx} {CX:CXT} {k j:Nat} {C:Addr} {m:Str} {ks:List Str} {sp:List V→Sp} {sp0:Sp} {E:XK} {o e:Expr} {es:List Expr} {kws:List Keyword} {ta:TE} {t tk:TA} {apos pos:Pos} {pl:Sem Bool}
end
section
variable {CX:CXT} {P:Program} {w:World} {K:PySem.W.Frag} {mg:Str→Option Value} {base:Heap} {k:Nat} {f:Addr} {name qual:Str} {params:Arguments} {body:List Stmt} {scope:Scope} {dV kV doc pm cdv ct oc:Value} {an od:Option Addr}
 {osl:Array (Option Value)} {N ps:List Str} {sp:Sp} {pv kn:Str}
end
end SB
namespace SB
open PySem PySem.Spec PyProof.Rows L2 StX
section
variable {P:Program} {w:World} {A:Around} {E:Value→Shared→Prop} {d:Addr}
end
section
variable {CX:CXT} {P:Program} {w:World} {K:PySem.W.Frag} {mg:Str→Option Value} {base:Heap} {k:Nat} {f:Addr} {name qual:Str} {params:Arguments} {body:List Stmt} {scope:Scope} {dV kV doc pm cdv ct oc:Value} {an od:Option Addr}
 {osl:Array (Option Value)} {N:List Str} {sp:Sp} {p1 pd:Str} {ks:List Str}
end
section
variable {X:Cx} {CX:CXT} {k:Nat} {C p g:Addr} {mc:Value} {sp:List V→Sp} {E:XK} {o:Expr} {m:Str} {ks:List Str} {kws:List Keyword} {pos apos:Pos} {ta:TE} {tk:TA} {pl:Sem Bool}
end
section
variable {X:Cx} {CX:CXT} {k:Nat} {f C:Addr} {sp:Sp} {E:XK} {x:Str} {e:Expr} {es:List Expr} {tf:TE} {t:TA} {p pos:Pos}
end
end SB
namespace SB
open PySem PySem.Spec PyProof.Rows L2 RZ
section
variable {prog:Program} {w:World} {A:Around} {E:Value→Shared→Prop} {s:Shared}
end
section
variable {prog:Program} {w:World} {A:Around} {E:Value→Shared→Prop} {s:Shared}
end
section
variable {K:PySem.W.Frag} {a b:Addr} {xs ys:List V}
end
end SB
namespace SB
open PySem PySem.Spec PyProof.Rows L2
end SB
namespace SB
open PySem PySem.Spec PyProof.Rows L2 StX
section
variable {X:Cx} {CX:CXT} {k j:Nat} {C:Addr} {f:Str} {sp:Sp} {E:XK} {pos pos':Pos} {o value:Expr} {ta tv:TE}
end
end SB
namespace SB
open PySem PySem.Spec PyProof.Rows L2 NdefX
section
variable {X:Cx} {pins:List (Addr × Obj)} {σ:L2.St} {H:Hp} {s:Shared}
end
end SB
namespace PySem
namespace HandSPX
section
variable {M:Model} {prog:Program} {w:World} {A:Around} {E:Value→Shared→Prop} {R:Result→Shared→Prop} {h:Heap} {g:Array GenState} {d:Drawn} {t:Nat} {os:OsState}
variable {nm q:Str} {C N:Addr} {bs bm bmB:List Value} {hdct:Bool} {sn:List Str} {sub:List Value} {ab:Bool} {col:Option Bool} {dd:Option Addr} {k0 k1 k2 k3 k5:Option Value} {B newId initId:String}
end
end HandSPX
end PySem
namespace SB
open PySem PySem.Spec PyProof.Rows L2 NdefX
section
variable {X:Cx}
end
section
variable {P:Program} {w:World} {K:PySem.W.Frag} {mg:Str→Option Value} {base:Heap} {x:Str} {C f cc cda:Addr} {qual:Str} {params:Arguments} {p0 p1 apos cpos pos q1 q2 q3 q4 q5 q6 q7 q8 ps1:Pos} {msg:Str} {j:Nat} {scope:Scope} {dV kV doc pm ct oc:Value} {an od:Option Addr} {osl:Array (Option Value)} {ar:Arg} {v v2 f1 f2:Str} {ks:List Str} {g:List Value→List Value→List Value} {gV:List V→List V→List V}
end
end SB
namespace SB
open PySem PySem.Spec PyProof.Rows L2 NdefX LamX
def tMlS (C:Addr) (sp:Sp) (E:L2.St→XK) (t:TA):TE:=fun σ H Q=>t σ H fun vs H1=>∀ x dx,H1 x=Option.none→H1 dx=Option.none→dx≠x →
 sp (V.ref x :: vs) (upd (upd H1 dx (.own x)) x (.ins C dx [])) (fun v H2=>v=.non∧Q (.ref x) H2) (E σ)
theorem run_makeRS {X:Cx} {CX:CXT} {k:Nat} {f C:Addr} {sp:Sp} {E:XK} {pins:List (Addr × Obj)} {σ:L2.St} {H:Hp} {s:Shared} {Q:VK} {us:List Value} {vs:List V} (M:Mk X.K C f) (F:FnR X.prog X.w X.K X.mg X.base CX k f sp) (hr:Room (k+1) X.A) (hx:PassesAt CX X σ E) (I:Inv X pins σ H s) (r:Vals vs us)
  (h:∀ x dx,H x=Option.none→H dx=Option.none→dx≠x→sp (V.ref x :: vs) (upd (upd H dx (.own x)) x (.ins C dx [])) (fun v H2=>v=.non∧Q (.ref x) H2) E) :
  wpAny (model X.prog X.w) X.A (call (.ref C) us) (EP X pins σ Q) X.xe s:=by
 have hq:=h (s.heap.objs.size+1) s.heap.objs.size (I.hok.fresh (Nat.le_succ _)) (I.hok.fresh (Nat.le_refl _)) (Nat.ne_of_lt (Nat.lt_succ_self _))
 have I2:=Inv.made (C:=C) I
 have r2:Vals (V.ref (s.heap.objs.size+1) :: vs) (Value.ref (s.heap.objs.size+1) :: us):=.cons rfl r
 refine wpAny_call (make_map (f:=f) I.kIn M.makes M.init (beq_iff_eq.mp M.fn) (codeAny_mono (F _ X.stack _ _ (Value.ref (s.heap.objs.size+1) :: us) _ _ E (hr.make C us []) (I2.env0.make C us []) r2 hq) fun r s' hq'=>?_))
 cases r with
 | error e=>exact hx pins _ _ e s' I2 hq'
 | ok fl =>
  cases fl with
  | ret u =>
   obtain ⟨v,H',I3,rv,ev,q3⟩:=I2.after hq'
   subst ev
   exact ⟨rv,⟨V.ref (s.heap.objs.size+1),H',I3,rfl,q3⟩⟩
  | next=>exact False.elim hq'
  | brk=>exact False.elim hq'
  | cont=>exact False.elim hq'
theorem pe_mlS {X:Cx} {CX:CXT} {k j:Nat} {x:Str} {C:Addr} {sp:Sp} {E:L2.St→XK} {p pos:Pos} {e:Expr} {es:List Expr} {t:TA} {P:Program} {w:World} {K:PySem.W.Frag} {mg:Str→Option Value} {base:Heap} (hP:X.prog=P) (hw:X.w=w) (hK:X.K=K) (hm':X.mg=mg) (hb:X.base=base)
  (c:Ml P w K mg base CX k x C sp) (hr:Room j X.A) (hk:k+1≤j) (hg:Gl X x) (hx:∀ σ,PassesAt CX X σ (E σ)) (ha:PA X (e :: es) t) (hdb:(x == ("__debug__" : Str))=false:=by decide)
  (he:starEach (e :: es) X.env=(false,eval e X.env) :: starEach es X.env:=by rfl) (hpl:(backTo pos (starEach es X.env)).any (·.1)=false:=by rfl):PE X (.Call (.Name x p) (e :: es) [] pos) (tMlS C sp E t):=by
 subst hP hw hK hm' hb
 obtain ⟨f,M,F,hm⟩:=c.ex
 refine ⟨fun pins s σ H Q I h=>?_⟩
 refine wpAny_Call_Name_kw (ld_glob I hg hm ?_ hdb)
 refine PySem.W.callWith_K (h₀:=X.base) I.ok.mod.kin M.kp (thn (ha.run pos pins s σ H _ I h) fun us s1 ⟨vs,H1,I1,r,q⟩=>⟨I1.kIn,?_⟩) he hpl
 exact run_makeRS M F (hr.mono hk) (hx σ) I1 r q
end SB
namespace SB
open PySem PySem.Spec PyProof.Rows L2
theorem fold_rep (c:Nat):∀ (k:Nat) (acc:List Nat),List.foldl (fun x y=>x++y) acc.toArray (List.replicate k #[c])=(acc++List.replicate k c).toArray
 | 0,acc=>by simp
 | k+1,acc=>by
  rw [List.replicate_succ,List.foldl_cons,show acc.toArray ++ #[c]=(acc++[c]).toArray by simp,fold_rep c k (acc++[c]),List.append_assoc]
  rfl
def rRepS:R2:=fun x y H Q=>∃ (c:Nat) (k:Nat),x=.str ⟨#[c]⟩∧y=.int (k:Int)∧k≤1000∧Q (.str ⟨(List.replicate k c).toArray⟩) H
theorem op_repS {X:Cx}:OpR X (binaryOp .Mult) rRepS:=by
 intro pins s σ H x y v u Q I rx ry h
 obtain ⟨c,k,rfl,rfl,hk,q⟩:=h
 obtain ⟨t,rfl⟩:=rx
 obtain ⟨t',rfl⟩:=ry
 refine PySem.P.mul_str ?_ (fun _ _=>?_) (fun _ _=>?_) ?_
 ·rw [decide_eq_false (by omega),decide_eq_false (by omega)]; rfl
 ·have:(⟨#[c]⟩ : Str).length=1:=rfl
  rw [this]
  intro z
  have hk1:((2:Int) ^ 63 - 1) / (k:Int) ≥ 9000000000000000:=by
   rcases Nat.eq_zero_or_pos k with e | e
   ·subst e
    simp at *
   ·exact Int.le_ediv_of_mul_le (by omega) (by omega)
  omega
 ·have:(⟨#[c]⟩ : Str).length=1:=rfl
  rw [this]
  show decide (_ > _)=false
  refine decide_eq_false ?_
  have:=le_line (n:=k) (by omega)
  simp only [Int.toNat_natCast,Nat.one_mul]
  omega
 ·split
  ·rename_i e
   have:k=0:=by omega
   subst this
   refine ⟨by decide,?_⟩
   have rv:L2.RelV (.str ⟨(List.replicate 0 c).toArray⟩) (Value.str Str.empty s.toks):=⟨_,rfl⟩
   exact ⟨_,H,I.tok _,rv,q⟩
  ·rename_i e
   split
   ·rename_i e2
    have:k=1:=by
     rw [Bool.or_eq_true] at e2
     rcases e2 with z | z
     ·have:=of_decide_eq_true z
      omega
     ·cases z
    subst this
    have rv:L2.RelV (.str ⟨(List.replicate 1 c).toArray⟩) (Value.str ⟨#[c]⟩ t):=⟨_,rfl⟩
    exact ⟨_,H,I,rv,q⟩
   ·have ef:=fold_rep c k []
    rw [List.nil_append] at ef
    simp only [Int.toNat_natCast]
    have ef2:List.foldl (fun x y=>x++y) #[] (List.replicate k #[c])=(List.replicate k c).toArray:=ef
    refine ⟨?_,⟨.str ⟨(List.replicate k c).toArray⟩,H,I.tok _,⟨_,by rw [ef2]⟩,q⟩⟩
    rw [ef2]
    show (List.replicate k c).toArray.size≤_
    simp only [List.size_toArray,List.length_replicate]
    exact le_line (by omega)
def rInT (K:PySem.W.Frag):R2:=fun x y H Q=>∃ d ds,Dp K H x d∧Dp K H y (.tuple ds)∧SeqAt.shaped d=true∧SeqAt.shaped (.tuple ds)=true∧Q (.bl (ds.any fun z=>PyData.eqv z d)) H
theorem op_inT {X:Cx} (hu:X.A.units+65 < cLine):OpR X (compareOp .In) (rInT X.K):=by
 intro pins s σ H x y v u Q I rx ry h
 obtain ⟨d,ds,hd,he,sd,se,q⟩:=h
 obtain ⟨as,r1⟩:=Dp.reads I d x v hd rx
 obtain ⟨bs,r2⟩:=Dp.reads I (.tuple ds) y u he ry
 exact SeqAt.in_tuple_reads r2 r1 (SeqAt.canLay_of_shaped se) (SeqAt.canLay_of_shaped sd) (room_in_shaped sd hu) ⟨.bl _,H,I,rfl,q⟩
theorem wk_gen {J:It} {n:Nat} {G:Hp→Prop} {Y:Nat→Hp→V→Hp→Prop} (w:Walk J n G Y) {B:(Hp→Prop)→V→Hp→Prop} {H0:Hp} {Qd:Hp→Prop} (Pv:Nat→Hp→Prop) (h0:Pv 0 H0) (hG:∀ i H,i≤n→Pv i H→G H)
  (hs:∀ i x H H',i < n→Pv i H→Y i H x H'→B (Pv (i+1)) x H') (hd:∀ H,Pv n H→Qd H) :
  ∃ W:Nat→Nat→Hp→Prop,(∃ m,W 0 m H0)∧∀ i m H,W i m H→(J.stop i H∧Qd H)∨(J.go i H∧∃ Nx:Hp→Prop,(∀ H',Nx H'→∃ m',m' < m∧W (i+1) m' H')∧∀ x H',J.yld i H x H'→B Nx x H'):=by
 refine ⟨fun i m H=>m=n - i∧i≤n∧Pv i H,⟨n,by simp,Nat.zero_le _,h0⟩,?_⟩
 rintro i m H ⟨rfl,hi,p⟩
 have q:=hG i H hi p
 by_cases hlt:i < n
 ·exact .inr ⟨w.goes i H hlt q,Pv (i+1),fun H' p'=>⟨n - (i+1),by omega,rfl,hlt,p'⟩,fun x H' y=>hs i x H H' hlt p (w.yields i H x H' hlt q y)⟩
 ·have e:i=n:=by omega
  subst e
  exact .inl ⟨w.stops H q,hd H p⟩
theorem un66 {k:Nat} {A:Around} (r:Room k A):A.units+65 < cLine:=by have:=r.un; omega
section
variable {X:Cx} {CX:CXT} {k j:Nat} {C:Addr} {x m:Str} {sp:Sp} {E:XK} {p pos:Pos}
theorem pe_ml0 (c:Ml X.prog X.w X.K X.mg X.base CX k x C sp) (hr:Room j X.A) (hk:k+1≤j) (hg:Gl X x) (hx:Passes CX X E) (hdb:(x == ("__debug__" : Str))=false:=by decide):PE X (.Call (.Name x p) [] [] pos) (tMl C sp E tNil):=by
 obtain ⟨f,M,F,hm⟩:=c.ex
 refine ⟨fun pins s σ H Q I h=>?_⟩
 refine wpAny_Call_Name_kw (ld_glob I hg hm ?_ hdb)
 exact PySem.W.callWith_K0 I.kIn M.kp (StX.run_makeR (us:=[]) M F (hr.mono hk) hx I .nil h)
end
end SB
namespace SB
open PySem PySem.Spec PyProof.Rows L2
def seenS (xs:List Str):List Str:=xs.foldl (fun a x=>if x∈a then a else a++[x]) []
theorem seenS_snoc (xs:List Str) (x:Str):seenS (xs++[x])=if x∈seenS xs then seenS xs else seenS xs++[x]:=by
 unfold seenS
 rw [List.foldl_append]
 rfl
theorem seenS_take {xs:List Str} {i:Nat} (h:i < xs.length):seenS (xs.take (i+1))=if xs.getD i Str.empty∈seenS (xs.take i) then seenS (xs.take i) else seenS (xs.take i)++[xs.getD i Str.empty]:=by
 have e:xs.take (i+1)=xs.take i++[xs.getD i Str.empty]:=by
  rw [List.take_add_one,List.getElem?_eq_getElem h,List.getD_eq_getElem?_getD,List.getElem?_eq_getElem h]
  rfl
 rw [e,seenS_snoc]
theorem seenS_le (xs:List Str):∀ i,i≤xs.length→(seenS (xs.take i)).length≤i
 | 0,_=>by simp [seenS]
 | i+1,h=>by
  rw [seenS_take (by omega)]
  have:=seenS_le xs i (by omega)
  split
  ·omega
  ·rw [List.length_append]; simp; omega
def hasS (l:List Str):Str→Bool:=fun k=>decide (k∈l)
theorem seenS_has {xs:List Str} {i:Nat} (h:i < xs.length) (k:Str):(hasS (seenS (xs.take i)) k || decide (k=xs.getD i Str.empty))=hasS (seenS (xs.take (i+1))) k:=by
 rw [seenS_take h]
 unfold hasS
 split
 ·rename_i c
  by_cases e:k=xs.getD i Str.empty
  ·rw [e,decide_eq_true c,Bool.true_or]
  ·rw [decide_eq_false e,Bool.or_false]
 ·simp only [List.mem_append,List.mem_singleton,Bool.decide_or]
theorem seenS_len {xs:List Str} {i:Nat} (h:i < xs.length):(if hasS (seenS (xs.take i)) (xs.getD i Str.empty)=true then (seenS (xs.take i)).length else (seenS (xs.take i)).length+1)=(seenS (xs.take (i+1))).length:=by
 rw [seenS_take h]
 unfold hasS
 by_cases c:xs.getD i Str.empty∈seenS (xs.take i)
 ·rw [if_pos (decide_eq_true c),if_pos c]
 ·rw [if_neg (by rw [decide_eq_false c]; exact Bool.false_ne_true),if_neg c,List.length_append]
  rfl
section
variable {prog:Program} {w:World} {A:Around} {R:Result→Shared→Prop} {I:Addr} {fp wr:List Addr} {G:Array GenState→Array GenState→Prop} {n:Nat} {P:Nat→Value→Prop} {St:Nat→Shared→Prop}
theorem moved_set {S:Addr} {knd:PySem.KeyKind prog w Str} {h:Str→Bool} {m:Nat} {s s':Shared} (hm:Moved wr G s s') (hS:S∉wr) (q:s.heap.SetOf knd S h m):s'.heap.SetOf knd S h m:=by
 obtain ⟨o,es,ep,tb,ho,rest⟩:=q
 exact ⟨o,es,ep,tb,hm.heap S _ hS ho,rest⟩
theorem put_strs (W:WalksS prog w A.in1 I fp wr G n P St) (S:Addr) (hS:S∉fp) (xs:List Str) (hl:xs.length=n) (hb:n+1 < scanBound) (hval:∀ i v,P i v→∃ t,v=.str (xs.getD i Str.empty) t) (d:Nat):∀ (i:Nat) (s:Shared),n=i+d→St i s →
  s.heap.SetOf (PySem.strKind prog w) S (hasS (seenS (xs.take i))) (seenS (xs.take i)).length →
  (∀ s',Moved (S :: wr) G s s'→s'.heap.SetOf (PySem.strKind prog w) S (hasS (seenS xs)) (seenS xs).length→R (.ok (.ret .none)) s') →
  codeAny (model prog w) A (.builtin "set.update.loop" ⟨[.ref S,.ref I],[]⟩) R s:=by
 have out:S∉wr:=fun z=>hS (W.sub _ z)
 have up:∀ b∈wr,b∈S :: wr:=fun b z=>List.mem_cons_of_mem _ z
 induction d with
 | zero =>
  intro i s hk st q k
  obtain rfl:n=i:=hk
  refine codeAny_builtin PyProof.Rows.F.entry_set_update_loop ?_
  rw [Around.under_plainId PyProof.Rows.F.plain_set_update_loop _]
  show wpAny _ A.in1 (pyNext (.ref I) >>= _) _ _ s
  refine wpAny_bind (W.done s _ _ st fun s' hm=>wpAny_pure (k s' (hm.mono up) ?_))
  have:=moved_set hm out q
  rw [← hl,List.take_length] at this
  exact this
 | succ d ih =>
  intro i s hk st q k
  have hi:i < xs.length:=by omega
  have hlen:=seenS_le xs i (by omega)
  refine codeAny_builtin PyProof.Rows.F.entry_set_update_loop ?_
  rw [Around.under_plainId PyProof.Rows.F.plain_set_update_loop _]
  show wpAny _ A.in1 (pyNext (.ref I) >>= _) _ _ s
  refine wpAny_bind (W.item i s _ _ (by omega) st fun v s1 hP st1 hm=>?_)
  obtain ⟨t,rfl⟩:=hval i v hP
  show wpAny _ A.in1 (holding [Value.str (xs.getD i Str.empty) t] (setAdd S (.str (xs.getD i Str.empty) t)) >>= _) _ _ s1
  refine wpAny_bind (wpAny_holding ?_)
  unfold setAdd
  refine wpAny_holding (wpAny_bind ((PySem.strKind prog w).pyHash (k:=xs.getD i Str.empty) (strKind_is _ _ _ _) ?_))
  have q1:=moved_set hm out q
  refine wpAny_setAddHashed_of (knd:=PySem.strKind prog w) (s:={ s1 with toks:=s1.toks+1 }) (strKind_is _ _ _ _) rfl q1 (by omega) fun h' sb q2=>?_
  have q3:=PyProof.Rows.SetOf_congr q2 (fun z=>seenS_has hi z) (seenS_len hi)
  refine wpAny_pure ⟨plainId_quiet PyProof.Rows.F.plain_set_update_loop _,ih (i+1) _ (by omega) (W.frame _ s1 _ _ st1 (Nat.le_succ _) fun b hb o e=>?_) q3 fun s2 hm2 q4=>k s2 (Moved.trans W.gtrans ((hm.mono up).then_heap (Nat.le_succ _) fun b o hb e=>?_) hm2) q4⟩
  ·rw [sb.2 b fun z:b=S=>hS (z ▸ hb)]
   exact e
  ·rw [sb.2 b fun z:b=S=>hb (z ▸ List.mem_cons_self)]
   exact e
end
section
variable {prog:Program} {w:World} {A:Around} {E:Value→Shared→Prop} {s:Shared}
abbrev set0 (led:Bool):Obj:={ cls:=.type "set",dict:=none,data:=.set #[] 0 (.fresh 0 0 led) }
def MadeS (prog:Program) (w:World) (s:Shared) (xs:List Str) (s2:Shared):Prop:=
 ∃ h' tk,s2={ s with heap:=h',toks:=tk }∧h'.SetOf (PySem.strKind prog w) s.heap.objs.size (hasS (seenS xs)) (seenS xs).length∧∀ b o,b < s.heap.objs.size→s.heap.get? b=some o→h'.get? b=some o
theorem made_moved {s s':Shared} {xs:List Str} {I:Addr} {led:Bool} {ito:Obj} {G:Array GenState→Array GenState→Prop} (hI:I=(s.heap.push (set0 led)).objs.size) (eg:s'.gens=s.gens) (hm:Moved [s.heap.objs.size,I] G { s with heap:=(s.heap.push (set0 led)).push ito } s') (q:s'.heap.SetOf (PySem.strKind prog w) s.heap.objs.size (hasS (seenS xs)) (seenS xs).length):MadeS prog w s xs s':=by
 obtain ⟨h',g',d',tk',os'⟩:=s'
 have eg:g'=s.gens:=eg
 have ed:d'=s.drawn:=hm.drawn
 have eo:os'=s.os:=hm.os
 subst eg ed eo
 refine ⟨h',tk',rfl,q,fun b o hb e=>hm.heap b o (fun z=>?_) (Heap.get?_push_of_some _ (Heap.get?_push_of_some _ e))⟩
 rcases List.mem_cons.mp z with z | z
 ·exact absurd z (Nat.ne_of_lt hb)
 ·rw [List.mem_singleton.mp z,hI,Heap.size_push] at hb
  omega
set_option maxHeartbeats 6400000 in
theorem call_setS {l:Addr} {items:Array Value} {xs:List Str} {Q:Value→Shared→Prop} (hh:A.handled=none) (hl:s.heap.IsList l items) (hi:PyProof.Rows.StrsAre items.toList xs) (hb:xs.length+1 < scanBound)
  (h:∀ s2,MadeS prog w s xs s2→Q (.ref s.heap.objs.size) s2):wpAny (model prog w) A (call (.type "set") [.ref l]) Q E s:=by
 obtain ⟨c,tl,hmro⟩:=PySem.F.called_set.mro
 have hmade:=PySem.F.called_set.made
 have hsub:=PySem.F.called_set.sub
 have hnt:=PySem.F.called_set.notType
 have hcc:=PySem.F.called_set.canCreate
 have htc:=PySem.F.typeCall_set_1 (.ref l)
 have hll:=PySem.F.called_set.init.lookup
 have hbi:=PySem.F.called_set.init.bind (.ref s.heap.objs.size)
 refine wpAny_call (codeAny_of_tree ?_)
 show wpAny _ _ (callAny (.type "set") _) _ _ _
 refine wpAny_pure ⟨Code.quiet_builtin _ (by decide +kernel),codeAny_builtin PySem.F.entry_type_call ?_⟩
 rw [Around.under_plain (weight_type_call_type "set" [.ref l] []) rfl]
 repeat (any_goals (first | assumption | wp_step))
 refine codeAny_mono (code_set_new_1 (.ref l) (E:=E) (Q₁:=fun v s1=>∃ led:Bool,v=.ref s.heap.objs.size∧s1={ s with heap:=s.heap.push (set0 led) }) fun led=>⟨led,rfl,rfl⟩) fun r s1 hr=>?_
 cases r with
 | error e=>exact hr
 | ok fl =>
  cases fl with
  | ret obj =>
   obtain ⟨led,rfl,rfl⟩:=hr
   have get0:(s.heap.push (set0 led)).get? s.heap.objs.size=some (set0 led):=Heap.get?_push_size _ rfl
   have tset:Shared.TypeIs { s with heap:=s.heap.push (set0 led) } (.ref s.heap.objs.size) "set":=⟨_,get0,rfl⟩
   repeat (any_goals (first | assumption | wp_step))
   refine codeAny_mono (codeAny_call_builtin (R:=wants (fun r s2=>r=.none∧MadeS prog w s xs s2) E) PySem.F.called_set.init.plain PySem.F.entry_set_init (check_set_init_1 tset ?_)) fun r2 s2 hr2=>?_
   ·obtain ⟨⟨oc,od,oda,osl⟩,hol,hc,nn,hdt⟩:=hl
    simp only at hc hdt
    subst hc hdt
    have isl:(s.heap.push (set0 led)).IsList l items:=⟨_,Heap.get?_push_of_some _ hol,rfl,nn,rfl⟩
    have hol':=Heap.get?_push_of_some (set0 led) hol
    have s1:=PySem.F.sub_list_set
    have s2:=PySem.F.sub_list_frozenset
    have s3:(Value.type "list" == Value.type "dict")=false:=by decide
    unfold Builtin.«set.__init__» noKeywords Builtin.Frozenset.updateFrom
    generalize hPI:pyIter=PI
    wp_walk
    subst hPI
    refine wpAny_pyIter_list isl (wpAny_bind (wpAny_runValue ?_))
    have lt:l < s.heap.objs.size:=Heap.lt_size hol
    have sz:(s.heap.push (set0 led)).objs.size=s.heap.objs.size+1:=Heap.size_push _ _
    have lx:xs.length=items.size:=by rw [← StrsAre.len_eq hi,Array.length_toList]
    have get1:=Heap.get?_push_of_some ({ cls:=.type "list_iterator",data:=.fields #[.ref l,.int 0 0] }:Obj) get0
    refine put_strs ((Walks.list (by simp [hh]) _ l (by rw [sz]; exact Nat.ne_of_lt (Nat.lt_succ_of_lt lt)) items).toS) s.heap.objs.size ?_ xs lx (by omega)
     (fun i v hv=>SS.strs_at hi i v (by rw [Array.getElem?_toList]; exact hv)) items.size 0 _ (by omega) ⟨⟨_,Heap.get?_push_size _ rfl,rfl,rfl⟩,isl.push _⟩
     (PyProof.Rows.SetOf_congr ((PyProof.Rows.setObjOf_fresh (knd:=PySem.strKind prog w) led).setOf get1 (by unfold scanBound; omega)) (fun _=>rfl) rfl) fun s' hm q=>?_
    ·rw [sz]
     intro z
     rcases List.mem_cons.mp z with z | z
     ·exact absurd z (Nat.ne_of_lt (Nat.lt_succ_self _))
     ·rw [List.mem_singleton.mp z] at lt
      exact absurd lt (Nat.lt_irrefl _)
    ·refine (fun mk=>?_) (made_moved (s:=s) (led:=led) rfl hm.gens hm q)
     show wpAny _ _ _ _ _ _
     refine wpAny_pure ?_
     show wpAny _ _ (ret Value.none) _ _ _
     exact wpAny_pure ⟨rfl,mk⟩
   ·cases r2 with
    | error e=>exact hr2
    | ok fl2 =>
     cases fl2 with
     | ret r =>
      obtain ⟨rfl,mk⟩:=hr2
      repeat (any_goals (first | assumption | wp_step))
      exact h _ mk
     | _=>exact hr2.elim
  | _=>exact hr.elim
end
theorem seenS_mem (xs:List Str):∀ i,i≤xs.length→∀ k,k∈seenS (xs.take i)↔k∈xs.take i
 | 0,_,k=>by simp [seenS]
 | i+1,h,k=>by
  have hi:i < xs.length:=by omega
  have e:xs.take (i+1)=xs.take i++[xs.getD i Str.empty]:=by
   rw [List.take_add_one,List.getElem?_eq_getElem hi,List.getD_eq_getElem?_getD,List.getElem?_eq_getElem hi]
   rfl
  have ih:=seenS_mem xs i (by omega)
  rw [seenS_take hi,e,List.mem_append,List.mem_singleton,← ih]
  split
  ·rename_i c
   exact ⟨.inl,fun z=>z.elim id fun z=>z ▸ c⟩
  ·rw [List.mem_append,List.mem_singleton]
theorem seenS_nodup (xs:List Str):∀ i,i≤xs.length→((seenS (xs.take i)).length=i↔(xs.take i).Nodup)
 | 0,_=>by simp [seenS]
 | i+1,h=>by
  have hi:i < xs.length:=by omega
  have e:xs.take (i+1)=xs.take i++[xs.getD i Str.empty]:=by
   rw [List.take_add_one,List.getElem?_eq_getElem hi,List.getD_eq_getElem?_getD,List.getElem?_eq_getElem hi]
   rfl
  have ih:=seenS_nodup xs i (by omega)
  have le:=seenS_le xs i (by omega)
  have mem:=seenS_mem xs i (by omega) (xs.getD i Str.empty)
  rw [seenS_take hi,e,List.nodup_append]
  split
  ·rename_i c
   refine ⟨fun z=>absurd z (by omega),fun z=>?_⟩
   exact absurd rfl (z.2.2 _ (mem.mp c) _ (List.mem_singleton.mpr rfl))
  ·rename_i c
   rw [List.length_append,List.length_singleton]
   refine ⟨fun z=>⟨ih.mp (by omega),by simp,fun a ha b hb=>?_⟩,fun z=>by have:=ih.mpr z.1; omega⟩
   rw [List.mem_singleton.mp hb]
   exact fun e=>c (mem.mpr (e ▸ ha))
theorem seenS_dec (xs:List Str):decide ((seenS xs).length=xs.length)=decide xs.Nodup:=by
 have:=seenS_nodup xs xs.length (Nat.le_refl _)
 rw [List.take_length] at this
 exact decide_eq_decide.mpr this
def tLenSetS (K:PySem.W.Frag) (ta:TE):TE:=fun σ H Q=>ta σ H fun x H1=>∃ (l:Addr) (xs:List Str),x=.ref l∧SqL K H1 l (xs.map V.str)∧xs.length≤2000∧Q (.int (seenS xs).length) H1
theorem pe_lenSetS {X:Cx} {a:Expr} {ta:TE} {p p2 q pos:Pos} (hc:X.calm=true) (hg:Gl X "len") (hm:X.mg "len"=none) (hg2:Gl X "set") (hm2:X.mg "set"=none) (ha:PE X a ta)
  (na:starEach [a] X.env=(false,eval a X.env) :: starEach [] X.env:=by rfl):PE X (.Call (.Name "len" p) [.Call (.Name "set" p2) [a] [] q] [] pos) (tLenSetS X.K ta):=by
 refine ⟨fun pins s σ H Q I h=>?_⟩
 refine Call_ (ld_blt I hg hm boot_len (PyProof.Rows.callWith_builtin1 (PyProof.Rows.args_cons ?_ rfl) rfl rfl))
 refine Call_ (ld_blt I hg2 hm2 boot_set (PyProof.Rows.callWith_type1 (PyProof.Rows.args_cons (thn (ha.run pins s σ H _ I h) fun v s1 ⟨x,H1,I1,r1,q1⟩=>PyProof.Rows.args_nil ?_) na) na rfl))
 obtain ⟨l,xs,rfl,hq,hz,q1⟩:=q1
 cases r1
 obtain ⟨its,r,pl,_⟩:=I1.list hq
 have le:=seenS_le xs xs.length (Nat.le_refl _)
 rw [List.take_length] at le
 refine call_setS (xs:=xs) (I1.ok.hd hc) pl.isList (by simpa using L2.strsAre_of r) (by unfold scanBound; omega) fun s2 ⟨h',tk,e,⟨o,es,ep,t,ho,hex,hd,_,_,_,hf,hn⟩,hk⟩=>PyProof.Rows.args_nil ?_
 subst e
 have I2:Inv X pins σ H1 { s1 with heap:=h',toks:=tk }:=I1.kept fun b o e=>hk b o (Heap.lt_size e) e
 exact call_len_set ho hex hd hf (by rw [hn]; omega) ⟨.int (seenS xs).length,H1,I2.tok _,⟨_,by rw [hn]⟩,q1⟩
end SB
namespace MM
end MM
namespace SB
open PySem PySem.Spec PyProof.Rows L2
section
variable {X:Cx} {CX:CXT} {k j:Nat} {C:Addr} {sp:Sp} {E:XK}
end
section
variable {X:Cx} {CX:CXT} {k j:Nat} {C:Addr} {sp:Sp} {E:XK} {o e:Expr} {es:List Expr} {m:Str} {pos apos:Pos} {ta:TE} {t:TA} {pl:Sem Bool}
end
section
variable {X:Cx} {CX:CXT} {k j:Nat} {C:Addr} {x x0:Str} {sp:Sp} {E:XK} {p pos:Pos} {e:Expr} {es:List Expr} {t:TA} {tf:TE}
end
end SB
namespace SB
open PySem PySem.Spec PyProof.Rows L2
def rJoinK (K:PySem.W.Frag):V→List V→Hp→VK→Prop:=fun x xs H Q=>∃ a p,∃ ys:List Str,x=.str a∧xs=[.ref p]∧(SqL K H p (ys.map V.str)∨SqT K H p (ys.map V.str))∧(ys.map (·.length)).sum+ys.length * a.length≤16777216∧Q (.str (Txt.join a ys)) H
theorem pe_joinK {X:Cx} {K:PySem.W.Frag} {o e:Expr} {to te:TE} {apos pos:Pos} (hK:X.K=K) (ho:PE X o to) (he:PE X e te) (hs:starEach [e] X.env=[(false,eval e X.env)]:=by rfl) (hbase:attributeBase o "join" X.env (eval o X.env)=eval o X.env:=by rfl) (hline:(apos.endLine == pos.line)=true:=by rfl) :
  PE X (.Call (.Attribute o "join" apos) [e] [] pos) (tM1 (rJoinK K) to te):=by
 subst hK
 exact pe_join ho he hs hbase hline
end SB
namespace MV
open PySem PySem.Spec PyProof.Rows L2 SB
local macro_rules | `(tactic| walk_at "rd") => `(tactic| repeat (first | (refine ⟨_, rfl, ?_⟩) | (refine ⟨_, _, rfl, rfl, ?_⟩)))
structure Blt (mg:Str→Option Value):Prop where
 n_len:mg "len"=none
 n_abs:mg "abs"=none
 n_int:mg "int"=none
 n_range:mg "range"=none
 n_list:mg "list"=none
 n_tuple:mg "tuple"=none
 n_str:mg "str"=none
 n_max:mg "max"=none
 n_min:mg "min"=none
 n_enumerate:mg "enumerate"=none
 n_isinstance:mg "isinstance"=none
def BagL (l:List V) (n:Nat):Prop:=∃ d m c:Int,l=[.int d,.int m,.int c]∧0≤m∧m≤100000000000000000000∧0≤c∧c≤(n:Int)
theorem BagL.mono {l:List V} {n k:Nat} (h:BagL l n) (hk:n≤k):BagL l k:=by
 obtain ⟨d,m,c,e,h1,h2,h3,h4⟩:=h
 exact ⟨d,m,c,e,h1,h2,h3,by omega⟩
def spBag (K:PySem.W.Frag):Sp:=fun vs H Q _=>∃ (a:Addr) (ns:List Int) (i:Int),vs=[.ref a,.int i]∧SqL K H a (ns.map V.int)∧0≤i∧i≤100∧ns.length≤1000 ∧
 ∀ (b:Addr) (l:List V),H b=none→BagL l 0→Q (.ref b) (upd H b (.lst l))
def spTake:Sp:=fun vs H Q _=>∃ (b:Addr) (many:Int) (l:List V) (n:Nat),vs=[.ref b,.int many]∧H b=some (.lst l)∧BagL l n∧n < 1000000∧0 < many∧many < 2 ^ 200 ∧
 ∀ (r:Int) (l':List V),0≤r→r < many→BagL l' (n+1)→Q (.int r) (upd H b (.lst l'))
section
variable {P:Program} {w:World} {K:PySem.W.Frag} {mg:Str→Option Value} {base:Heap}
theorem sc_bag:FnScope ["_law_script","_law_at","_law_cell","_law_digits"] ["_law_script","_law_at"] (defScope s_bag):=⟨rfl,rfl,rfl,by decide +kernel,rfl,by decide +kernel,by decide +kernel⟩
theorem ok_bag {f:Addr} {fd:FuncData} (F:Fun K "_law_bag" "_law_bag" s_bag f fd) (T:Blt mg):FnR P w K mg base CX0 1 f (spBag K):=by
 refine fnr F sc_bag (fun vs H Q E h=>?_) (fun _ _ _ _ _ _ us hl=>match us,hl with | [_,_],_=>rfl) (fun cdv A outer s H vs Q E hr h=>?_)
 ·obtain ⟨a,ns,i,rfl,_⟩:=h
  rfl
 ·obtain ⟨a,ns,i,rfl,hS,h0,h1,hz,k⟩:=h
  refine ⟨_,(C8.pss_cut (ps_set (i:=2) sc_bag.nd rfl (Or.inl rfl) (pe_ifExp (pt_cmpR op_lt (pv 1) (pe_callB call_len_seq (by rfl) T.n_len (by decide +kernel) (pa_cons (pv 0) pa_nil)) (nomark _)) (pe_ix ix_list (pv 0) (pv 1) (fun _ _=>rfl)) pe_int))
   (C8.pss_cut (ps_set (i:=3) sc_bag.nd rfl (Or.inl rfl) (pe_ifExp (pt_cmpR op_ge (pe_callB call_abs (by rfl) T.n_abs (by decide +kernel) (pa_cons (pv 2) pa_nil)) (pe_op op_powM pe_int pe_int) (nomark _)) (pe_callB call_abs (by rfl) T.n_abs (by decide +kernel) (pa_cons (pv 2) pa_nil)) pe_int))
   (pss_one (ps_ret (pe_lst (pa_cons (pv 3) (pa_cons (pe_op op_add (pe_op op_add (pe_op op_mul (pe_op op_mod (pe_callTy call_int1 (by rfl) T.n_int (by decide +kernel) (pa_cons (pv 2) pa_nil)) pe_int) pe_int) (pe_op op_mul pe_int (pv 1))) pe_int) (pa_cons pe_int pa_nil)))))))),?_⟩
  refine ⟨fun σ' H'=>∃ z:Int,σ'=[some (.ref a),some (.int i),some (.int z),none]∧H'=H,?_,?_⟩
  ·walk_at "rd"
   refine ⟨a,_,rfl,.inl hS,?_⟩
   walk_at "rd"
   refine ite2 (fun c=>?_) (fun c=>?_)
   ·have c':i < (ns.length:Int):=by simpa using of_decide_eq_true c
    walk_at "rd"
    have hj:i.toNat < ns.length:=by omega
    refine ⟨a,_,i,.int ns[i.toNat],rfl,rfl,hS,at_of (j:=i.toNat) (by omega) (by rw [List.getElem?_map,List.getElem?_eq_getElem hj]; rfl),?_⟩
    exact ⟨_,rfl,rfl⟩
   ·exact ⟨0,rfl,rfl⟩
  ·rintro σ' H' ⟨z,rfl,rfl⟩
   refine ⟨fun σ' H''=>∃ d:Int,σ'=[some (.ref a),some (.int i),some (.int z),some (.int d)]∧H''=H',?_,?_⟩
   ·walk_at "rd"
    refine ⟨⟨by decide,by decide,by decide⟩,?_⟩
    walk_at "rd"
    refine ite2 (fun c=>?_) (fun c=>?_)
    ·walk_at "rd"
     rfl
    ·exact ⟨0,rfl,rfl⟩
   ·rintro σ' H'' ⟨d,rfl,rfl⟩
    walk_at "rd"
    refine .inl ⟨_,rfl,?_⟩
    walk_at "rd"
    refine ⟨(by show (0:Int) < 2305843009213693951; decide),?_⟩
    walk_at "rd"
    refine ⟨.inr ⟨by decide,by decide⟩,?_⟩
    walk_at "rd"
    refine ⟨.inl ⟨by decide,by decide⟩,?_⟩
    walk_at "rd"
    have z0:0≤z % 2305843009213693951:=Int.emod_nonneg _ (by decide)
    have z1:z % 2305843009213693951 < 2305843009213693951:=Int.emod_lt_of_pos _ (by decide)
    refine ⟨by show 3≤sizeLine; decide,fun p hp=>k p _ hp ⟨_,_,_,rfl,?_,?_,?_,?_⟩⟩
    all_goals omega
theorem sc_take:FnScope ["_law_bag_here","_law_many","_law_digit","_law_mixed"] ["_law_bag_here","_law_many"] (defScope s_take):=⟨rfl,rfl,rfl,by decide +kernel,rfl,by decide +kernel,by decide +kernel⟩
theorem ok_take {f:Addr} {fd:FuncData} (F:Fun K "_law_take" "_law_take" s_take f fd) (T:Blt mg):FnR P w K mg base CX0 1 f spTake:=by
 refine fnr F sc_take (fun vs H Q E h=>?_) (fun _ _ _ _ _ _ us hl=>match us,hl with | [_,_],_=>rfl) (fun cdv A outer s H vs Q E hr h=>?_)
 ·obtain ⟨a,ns,i,_,rfl,_⟩:=h
  rfl
 ·obtain ⟨b,many,l,n,rfl,hb,⟨d,m,c,rfl,m0,m1,c0,c1⟩,hn,hm0,hm1,k⟩:=h
  refine ⟨_,(pss_cons (ps_if (pt_cmpR op_gt (pe_ix ix_list (pv 0) pe_int (fun _ _=>rfl)) pe_int (nomark _)) (pss_cons (ps_set (i:=2) sc_take.nd rfl (Or.inl rfl) (pe_op op_mod (pe_callTy call_int1 (by rfl) T.n_int (by decide +kernel) (pa_cons (pe_ix ix_list (pv 0) pe_int (fun _ _=>rfl)) pa_nil)) (pv 1)))
    (pss_cons (ps_asg (pe_op op_fdivW (pe_ix ix_list (pv 0) pe_int (fun _ _=>rfl)) (pv 1)) (pg_sub (pv 0) pe_int set_list))
    (pss_one (ps_ret (pv 2))))) pss_nil)
   (pss_cons (ps_asg (pe_op op_add (pe_ix ix_list (pv 0) pe_int (fun _ _=>rfl)) pe_int) (pg_sub (pv 0) pe_int set_list))
   (pss_cons (ps_set (i:=3) sc_take.nd rfl (Or.inl rfl) (pe_op op_mod (pe_callTy call_int1 (by rfl) T.n_int (by decide +kernel) (pa_cons (pe_op op_powM (pe_op op_add (pe_ix ix_list (pv 0) pe_int (fun _ _=>rfl)) (pe_op op_mul pe_int (pe_ix ix_list (pv 0) pe_int (fun _ _=>rfl)))) pe_int) pa_nil)) pe_int))
   (pss_cons (ps_set (i:=3) sc_take.nd rfl (Or.inl rfl) (pe_op op_mod (pe_callTy call_int1 (by rfl) T.n_int (by decide +kernel) (pa_cons (pe_op op_powM (pe_op op_add (pv 3) (pe_op op_mul pe_int (pe_ix ix_list (pv 0) pe_int (fun _ _=>rfl)))) pe_int) pa_nil)) pe_int))
   (pss_one (ps_ret (pe_op op_mod (pe_callTy call_int1 (by rfl) T.n_int (by decide +kernel) (pa_cons (pe_op op_fdiv (pv 3) pe_int) pa_nil)) (pv 1)))))))),?_⟩
  have hq:=SqL.of (K:=K) hb
  walk_at "rd"
  refine ⟨b,_,_,_,rfl,rfl,hq,rfl,?_⟩
  walk_at "rd"
  refine ite2 (fun g=>?_) (fun g=>?_)
  ·walk_at "rd"
   refine ⟨b,_,_,_,rfl,rfl,hq,rfl,?_⟩
   refine .inl ⟨_,rfl,?_⟩
   walk_at "rd"
   refine ⟨hm0,?_⟩
   walk_at "rd"
   refine ⟨b,_,_,_,rfl,rfl,hq,rfl,?_⟩
   walk_at "rd"
   refine ⟨wide_div (b:=200) hm0 (by omega) (by decide) (by decide),?_⟩
   walk_at "rd"
   refine ⟨b,_,_,0,rfl,rfl,hb,rfl,?_⟩
   walk_at "rd"
   exact k _ _ (Int.emod_nonneg _ (by omega)) (Int.emod_lt_of_pos _ hm0) ⟨_,m,c,rfl,m0,m1,c0,by omega⟩
  ·walk_at "rd"
   refine ⟨b,_,_,_,rfl,rfl,hq,rfl,?_⟩
   walk_at "rd"
   refine ⟨b,_,_,2,rfl,rfl,hb,rfl,?_⟩
   have hb2:(upd H b (.lst [.int d,.int m,.int (c+1)])) b=some (.lst [.int d,.int m,.int (c+1)]):=upd_same
   have hq2:=SqL.of (K:=K) hb2
   walk_at "rd"
   refine ⟨b,_,_,_,rfl,rfl,hq2,rfl,?_⟩
   walk_at "rd"
   refine ⟨b,_,_,_,rfl,rfl,hq2,rfl,?_⟩
   walk_at "rd"
   refine ⟨.inl ⟨by decide,by decide⟩,?_⟩
   walk_at "rd"
   refine ⟨⟨by decide,by decide,by omega⟩,?_⟩
   refine .inl ⟨_,rfl,?_⟩
   walk_at "rd"
   refine ⟨(by show (0:Int) < 2305843009213693921; decide),?_⟩
   walk_at "rd"
   refine ⟨b,_,_,_,rfl,rfl,hq2,rfl,?_⟩
   walk_at "rd"
   refine ⟨.inl ⟨by decide,by decide⟩,?_⟩
   walk_at "rd"
   have y0:=Int.emod_nonneg ((m+15485863 * (c+1)) ^ 3) (show (2305843009213693921:Int)≠0 by decide)
   have y1:=Int.emod_lt_of_pos ((m+15485863 * (c+1)) ^ 3) (show (0:Int) < 2305843009213693921 by decide)
   refine ⟨⟨by decide,by decide,(by show ((m+15485863 * (c+1)) ^ 3 % 2305843009213693921+86028121 * (c+1)).natAbs < 2 ^ 200; omega)⟩,?_⟩
   refine .inl ⟨_,rfl,?_⟩
   walk_at "rd"
   refine ⟨(by show (0:Int) < 2305843009213693951; decide),?_⟩
   walk_at "rd"
   refine ⟨⟨by decide,by decide⟩,?_⟩
   refine .inl ⟨_,rfl,?_⟩
   walk_at "rd"
   refine ⟨hm0,?_⟩
   exact k _ _ (Int.emod_nonneg _ (by omega)) (Int.emod_lt_of_pos _ hm0) ⟨_,m,c+1,rfl,m0,m1,by omega,by omega⟩
end
open PySem PySem.Spec PyProof.Rows L2 SB MM
local macro_rules | `(tactic| walk_at "rd") => `(tactic| repeat (first | (refine ⟨_, rfl, ?_⟩) | (refine ⟨_, _, rfl, rfl, ?_⟩) | (refine ⟨_, _, rfl, ?_⟩) | (refine ⟨rfl, ?_⟩)))
section
variable {P:Program} {w:World} {K:PySem.W.Frag} {mg:Str→Option Value} {base:Heap}
end
open PySem PySem.Spec PyProof.Rows L2 SB MM LamX
section
variable {b:Addr} {H H':Hp}
end
theorem st_nil {σ:L2.St} {H:Hp} {Q:List V→Hp→Prop} (h:Q [] H):tNil σ H Q:=h
theorem st_cons {ta:TE} {tr:TA} {σ:L2.St} {H:Hp} {Q:List V→Hp→Prop} (h:ta σ H fun x H1=>tr σ H1 fun xs H2=>Q (x :: xs) H2):tCons ta tr σ H Q:=h
theorem st_C {v:V} {σ:L2.St} {H:Hp} {Q:VK} (h:Q v H):tC v σ H Q:=h
def Fix:HO→Prop
 | .tup _=>True
 | .frz _ (.tup _)=>True
 | .frz _ (.lst _)=>True
 | .frz _ (.dK _)=>True
 | _=>False
def NT (o:HO):Prop:=∀ ps,o≠.tbl ps
def Kin:HO→HO→Prop
 | .lst _,o=>∃ xs,o=.lst xs
 | .ins C _ _,o=>∃ dx fs,o=.ins C dx fs
 | .dK _,o=>∃ kvs,o=.dK kvs
 | .dT _,o=>∃ kvs,o=.dT kvs
 | o,o'=>o'=o
theorem Kin.refl:∀ o:HO,Kin o o
 | .lst _=>⟨_,rfl⟩
 | .ins _ _ _=>⟨_,_,rfl⟩
 | .dK _=>⟨_,rfl⟩
 | .tup _=>rfl
 | .dT _=>⟨_,rfl⟩
 | .set _ _=>rfl
 | .own _=>rfl
 | .xd _=>rfl
 | .met _ _=>rfl
 | .rng _ _=>rfl
 | .frz _ _=>rfl
 | .tbl _=>rfl
 | .ext _=>rfl
theorem Kin.nt {o o':HO} (k:Kin o o') (n:NT o):NT o':=by
 intro ps e
 subst e
 cases o with
 | tbl _=>exact absurd rfl (n _)
 | lst _=>obtain ⟨_,z⟩:=k; cases z
 | dK _=>obtain ⟨_,z⟩:=k; cases z
 | dT _=>obtain ⟨_,z⟩:=k; cases z
 | ins _ _ _=>obtain ⟨_,_,z⟩:=k; cases z
 | _=>have z:HO.tbl ps=_:=k; cases z
theorem Kin.trans {a b c:HO} (x:Kin a b) (y:Kin b c):Kin a c:=by
 cases a with
 | lst _=>obtain ⟨_,rfl⟩:=x; exact y
 | dK _=>obtain ⟨_,rfl⟩:=x; exact y
 | dT _=>obtain ⟨_,rfl⟩:=x; exact y
 | ins _ _ _=>obtain ⟨_,_,rfl⟩:=x; exact y
 | _=>have e:b=_:=x; rw [e] at y; exact y
structure Ev (TS:List (Addr × Str)) (L:List Addr) (H H':Hp):Prop where
 st:∀ p o,H p=some o→(p∈L→Fix o)→NT o→H' p=some o
 kd:∀ p o,H p=some o→NT o→∃ o',H' p=some o'∧Kin o o'
 tb:Tabs TS H→Tabs TS H'
def NeH (_:Hp) (p q:Addr):Prop:=p≠q
def Nin (H:Hp) (p:Addr):List Addr→Prop
 | []=>True
 | q :: r=>NeH H p q∧Nin H p r
theorem Nin.no {H:Hp} {p:Addr}:∀ {L:List Addr},Nin H p L→p∉L
 | [],_,h=>nomatch h
 | q :: r,⟨h1,h2⟩,h=>by
  rcases List.mem_cons.mp h with z | z
  ·exact h1 z
  ·exact h2.no z
def Al (H:Hp) (p:Addr):Prop:=∃ o,H p=some o∧NT o
def Out (H:Hp) (L:List Addr):List Addr→Prop
 | []=>True
 | q :: r=>(q∈L∨¬ Al H q)∧Out H L r
theorem Out.at_ {H:Hp} {L:List Addr}:∀ {M:List Addr},Out H L M→∀ q∈M,q∈L∨¬ Al H q
 | [],_,_,h=>nomatch h
 | m :: r,⟨h1,h2⟩,q,h=>by
  rcases List.mem_cons.mp h with z | z
  ·rw [z]; exact h1
  ·exact h2.at_ q z
section
variable {TS:List (Addr × Str)} {K:PySem.W.Frag} {H H1 H':Hp} {L L1:List Addr} {p q a b:Addr} {xs ys:List V}
theorem Al.lst (h:H p=some (.lst xs)):Al H p:=⟨_,h,fun _ z=>by cases z⟩
theorem Al.tup (h:H p=some (.tup xs)):Al H p:=⟨_,h,fun _ z=>by cases z⟩
theorem Al.ins {C dx:Addr} {fs:List (Str × V)} (h:H p=some (.ins C dx fs)):Al H p:=⟨_,h,fun _ z=>by cases z⟩
theorem Al.dK {kvs:List (Key × V)} (h:H p=some (.dK kvs)):Al H p:=⟨_,h,fun _ z=>by cases z⟩
theorem Al.dT {kvs:List (List Key × V)} (h:H p=some (.dT kvs)):Al H p:=⟨_,h,fun _ z=>by cases z⟩
theorem Al.ev (e:Ev TS L H H') (h:Al H p):Al H' p:=by
 obtain ⟨o,h,n⟩:=h
 obtain ⟨o',h',k⟩:=e.kd p o h n
 exact ⟨o',h',k.nt n⟩
theorem Al.ne (hq:H1 q=none) (h:Al H1 p):NeH H p q:=by
 obtain ⟨o,h,_⟩:=h
 exact ne_of_none h hq
def NA (H:Hp) (p:Addr):Prop:=¬ Al H p
theorem NA.ne (hq:NA H1 q) (h:Al H1 p):NeH H p q:=fun e=>by
 subst e
 exact hq h
theorem NA.ens (hq:NA H1 p) (h:Al H1 q):NeH H p q:=fun e=>by
 subst e
 exact hq h
theorem NA.of (h:H q=none):NA H q:=fun ⟨o,e,_⟩=>by
 rw [h] at e
 cases e
def isL (H:Hp) (p:Addr):Prop:=∃ xs,H p=some (.lst xs)
def isI (H:Hp) (p:Addr):Prop:=∃ C dx fs,H p=some (.ins C dx fs)
theorem isL.of (h:H p=some (.lst xs)):isL H p:=⟨_,h⟩
theorem isI.of {C dx:Addr} {fs:List (Str × V)} (h:H p=some (.ins C dx fs)):isI H p:=⟨_,_,_,h⟩
theorem isL.ev (e:Ev TS L H H') (h:isL H p):isL H' p:=by
 obtain ⟨xs,h⟩:=h
 obtain ⟨o',h',ys,rfl⟩:=e.kd p _ h fun _ z=>by cases z
 exact ⟨ys,h'⟩
theorem isI.ev (e:Ev TS L H H') (h:isI H p):isI H' p:=by
 obtain ⟨C,dx,fs,h⟩:=h
 obtain ⟨o',h',dy,ys,rfl⟩:=e.kd p _ h fun _ z=>by cases z
 exact ⟨_,_,ys,h'⟩
theorem NeH.symm (h:NeH H p q):NeH H q p:=Ne.symm h
theorem NeH.of (h:p≠q):NeH H p q:=h
theorem NeH.ofs (h:q≠p):NeH H p q:=Ne.symm h
theorem neLI (h:isL H p) (h':isI H q):NeH H p q:=by
 obtain ⟨xs,h⟩:=h
 obtain ⟨C,dx,fs,h'⟩:=h'
 exact ne_of h h' (by intro z; cases z)
theorem neIL (h:isI H p) (h':isL H q):NeH H p q:=(neLI h' h).symm
theorem Al.ens (hq:H1 p=none) (h:Al H1 q):NeH H p q:=(Al.ne (H:=H) hq h).symm
theorem isL.al (h:isL H p):Al H p:=by
 obtain ⟨xs,h⟩:=h
 exact Al.lst h
theorem isI.al (h:isI H p):Al H p:=by
 obtain ⟨C,dx,fs,h⟩:=h
 exact Al.ins h
def Le (H H':Hp):Prop:=∀ p,Al H p→Al H' p
theorem Le.refl (H:Hp):Le H H:=fun _ h=>h
theorem Le.ev (e:Ev TS L H1 H') (l:Le H H1):Le H H':=fun p h=>(l p h).ev e
theorem Le.nal (h:H1 q=none) (l:Le H H1):¬ Al H q:=fun z=>by
 obtain ⟨o,e,_⟩:=l q z
 rw [h] at e
 cases e
theorem Le.na (h:NA H1 q) (l:Le H H1):NA H q:=fun z=>h (l q z)
theorem Ev.refl (L:List Addr) (H:Hp):Ev TS L H H:=⟨fun _ _ h _ _=>h,fun _ o h _=>⟨o,h,Kin.refl o⟩,id⟩
theorem Ev.trans (x:Ev TS L H H1) (y:Ev TS L1 H1 H') (h:Out H L L1):Ev TS L H H':=by
 refine ⟨fun p o e f n=>?_,fun p o e n=>?_,fun t=>y.tb (x.tb t)⟩
 ·refine y.st p o (x.st p o e f n) (fun hp=>?_) n
  rcases h.at_ p hp with z | z
  ·exact f z
  ·exact absurd ⟨o,e,n⟩ z
 ·obtain ⟨o1,e1,k1⟩:=x.kd p o e n
  obtain ⟨o2,e2,k2⟩:=y.kd p o1 e1 (k1.nt n)
  exact ⟨o2,e2,k1.trans k2⟩
theorem Ev.trans' (y:Ev TS L1 H1 H') (x:Ev TS L H H1) (h:Out H L L1):Ev TS L H H':=x.trans y h
theorem ev_tabs (e:Ev TS L H H') (h:Tabs TS H):Tabs TS H':=e.tb h
theorem Ev.mono (x:Ev TS L H H') (h:∀ p∈L,p∈L1):Ev TS L1 H H':=⟨fun p o e f n=>x.st p o e (fun z=>f (h p z)) n,x.kd,x.tb⟩
theorem Ev.nal (x:Ev TS L H H1) (h:H1 q=none):¬ Al H q:=fun z=>by
 obtain ⟨o,e,_⟩:=z.ev x
 rw [h] at e
 cases e
theorem nal0 (h:H q=none):¬ Al H q:=fun ⟨o,e,_⟩=>by
 rw [h] at e
 cases e
theorem tabs_upd {o o':HO} (hT:Tabs TS H) (h:H p=some o) (n:NT o) (nx:∀ φ,o≠.ext φ):Tabs TS (upd H p o'):=by
 intro t ht
 obtain ⟨tb,h1,h2,h3⟩:=hT t ht
 refine ⟨tb,by rw [upd_ne (ne_of h1 h (fun z=>n _ z.symm))]; exact h1,h2,fun pos cv hcv=>?_⟩
 obtain ⟨cx,e1,e2⟩:=h3 pos cv hcv
 exact ⟨cx,e1,by rw [upd_ne (ne_of e2 h (fun z=>nx _ (by unfold CodeO at z; exact z.symm)))]; exact e2⟩
theorem Ev.same (e:Same H H'):Ev TS [] H H':=⟨fun p o h _ _=>e p o h,fun p o h _=>⟨o,e p o h,Kin.refl o⟩,fun t=>t.ext e⟩
theorem Ev.new {o:HO} (h:H p=none):Ev TS [] H (upd H p o):=Ev.same (same_new (Same.refl H) h)
theorem Ev.upd_ {o o':HO} (h:H p=some o) (hf:¬ Fix o) (n:NT o) (nx:∀ φ,o≠.ext φ) (k:Kin o o'):Ev TS [p] H (upd H p o'):=by
 refine ⟨fun q u e f _=>?_,fun q u e nu=>?_,fun t=>tabs_upd t h n nx⟩
 ·by_cases c:q=p
  ·subst c
   rw [h] at e
   cases e
   exact absurd (f (List.mem_singleton.mpr rfl)) hf
  ·rw [upd_ne c]
   exact e
 ·by_cases c:q=p
  ·subst c
   rw [h] at e
   cases e
   exact ⟨o',upd_same,k⟩
  ·exact ⟨u,by rw [upd_ne c]; exact e,Kin.refl u⟩
theorem Ev.setL (h:H p=some (.lst xs)):Ev TS [p] H (upd H p (.lst ys)):=Ev.upd_ h (fun z=>z) (fun _ z=>by cases z) (fun _ z=>by cases z) ⟨_,rfl⟩
theorem Ev.setI {C dx:Addr} {fs gs:List (Str × V)} (h:H p=some (.ins C dx fs)):Ev TS [p] H (upd H p (.ins C dx gs)):=Ev.upd_ h (fun z=>z) (fun _ z=>by cases z) (fun _ z=>by cases z) ⟨_,_,rfl⟩
theorem Ev.setD {kvs kws:List (Key × V)} (h:H p=some (.dK kvs)):Ev TS [p] H (upd H p (.dK kws)):=Ev.upd_ h (fun z=>z) (fun _ z=>by cases z) (fun _ z=>by cases z) ⟨_,rfl⟩
theorem Ev.ext (e:ExtN H H') (t:Tabs TS H'):Ev TS [] H H':=⟨fun p o h _ n=>e p o h n,fun p o h n=>⟨o,e p o h n,Kin.refl o⟩,fun _=>t⟩
theorem ev_tup (e:Ev TS L H H') (h:H p=some (.tup xs)):H' p=some (.tup xs):=e.st _ _ h (fun _=>trivial) fun _ z=>by cases z
theorem ev_frzT {o:Obj} (e:Ev TS L H H') (h:H p=some (.frz o (.tup xs))):H' p=some (.frz o (.tup xs)):=e.st _ _ h (fun _=>trivial) fun _ z=>by cases z
theorem ev_lst (e:Ev TS L H H') (h:H p=some (.lst xs)) (n:Nin H p L):H' p=some (.lst xs):=e.st _ _ h (fun z=>absurd z n.no) fun _ z=>by cases z
theorem ev_ins {C dx:Addr} {fs:List (Str × V)} (e:Ev TS L H H') (h:H p=some (.ins C dx fs)) (n:Nin H p L):H' p=some (.ins C dx fs):=e.st _ _ h (fun z=>absurd z n.no) fun _ z=>by cases z
theorem ev_dK {kvs:List (Key × V)} (e:Ev TS L H H') (h:H p=some (.dK kvs)) (n:Nin H p L):H' p=some (.dK kvs):=e.st _ _ h (fun z=>absurd z n.no) fun _ z=>by cases z
theorem ev_dT {kvs:List (List Key × V)} (e:Ev TS L H H') (h:H p=some (.dT kvs)) (n:Nin H p L):H' p=some (.dT kvs):=e.st _ _ h (fun z=>absurd z n.no) fun _ z=>by cases z
theorem ev_fzT (e:Ev TS L H H') (h:FzT H p xs):FzT H' p xs:=by
 obtain ⟨o,h,hd⟩:=h
 exact ⟨o,ev_frzT e h,hd⟩
theorem ev_sqT (e:Ev TS L H H') (h:SqT K H p xs):SqT K H' p xs:=by
 rcases h with (h | ⟨o,h⟩) | h
 ·exact .inl (.inl (ev_tup e h))
 ·exact .inl (.inr ⟨o,ev_frzT e h⟩)
 ·exact .inr h
theorem ev_sqL (e:Ev TS L H H') (h:SqL K H p xs) (n:Nin H p L):SqL K H' p xs:=by
 rcases h with (h | ⟨o,h⟩) | h
 ·exact .inl (.inl (ev_lst e h n))
 ·exact .inl (.inr ⟨o,e.st _ _ h (fun _=>trivial) fun _ z=>by cases z⟩)
 ·exact .inr h
def BagB (H:Hp) (b:Addr) (n:Nat):Prop:=∃ l,H b=some (.lst l)∧BagL l n
theorem ev_bag {n:Nat} (e:Ev TS L H H') (h:BagB H b n) (hn:Nin H b L):BagB H' b n:=by
 obtain ⟨l,h,hl⟩:=h
 exact ⟨l,ev_lst e h hn,hl⟩
theorem BagB.mono {n m:Nat} (h:BagB H b n) (hm:n≤m):BagB H b m:=by
 obtain ⟨l,h,hl⟩:=h
 exact ⟨l,h,hl.mono hm⟩
theorem isL.bag {n:Nat} (h:BagB H b n):isL H b:=by
 obtain ⟨l,h,hl⟩:=h
 exact ⟨_,h⟩
theorem Al.bag {n:Nat} (h:BagB H b n):Al H b:=by
 obtain ⟨l,h,hl⟩:=h
 exact Al.lst h
def isT (H:Hp) (p:Addr):Prop:=∃ xs,H p=some (.tup xs)
theorem isT.ev (e:Ev TS L H H') (h:isT H p):isT H' p:=by
 obtain ⟨xs,h⟩:=h
 exact ⟨xs,ev_tup e h⟩
theorem new_facts {o:HO} (h:upd H p o=H') (hp:H p=none):Ev TS [] H H'∧H' p=some o:=h ▸ ⟨Ev.new hp,upd_same⟩
theorem set_facts (h:upd H p (.lst ys)=H') (hp:H p=some (.lst xs)):Ev TS [p] H H'∧H' p=some (.lst ys):=h ▸ ⟨Ev.setL hp,upd_same⟩
theorem setI_facts {C dx:Addr} {fs gs:List (Str × V)} (h:upd H p (.ins C dx gs)=H') (hp:H p=some (.ins C dx fs)):Ev TS [p] H H'∧H' p=some (.ins C dx gs):=h ▸ ⟨Ev.setI hp,upd_same⟩
theorem setD_facts {kvs kws:List (Key × V)} (h:upd H p (.dK kws)=H') (hp:H p=some (.dK kvs)):Ev TS [p] H H'∧H' p=some (.dK kws):=h ▸ ⟨Ev.setD hp,upd_same⟩
variable {Q:VK}
theorem a_append {v:V} (h:H p=some (.lst xs)) (hz:xs.length < sizeLine) (k:∀ H',Ev TS [p] H H'→H' p=some (.lst (xs++[v]))→Q .non H'):rAppend (.ref p) [v] H Q:=⟨p,xs,v,rfl,rfl,h,hz,k _ (Ev.setL h) upd_same⟩
theorem a_cat (ha:H a=some (.lst xs)) (hb:H b=some (.lst ys)) (hz:xs.length+ys.length≤sizeLine) (k:∀ q H',H q=none→Ev TS [] H H'→H' q=some (.lst (xs++ys))→Q (.ref q) H'):rCat (.ref a) (.ref b) H Q:=⟨a,b,xs,ys,rfl,rfl,ha,hb,hz,fun p hp=>k p _ hp (Ev.new hp) upd_same⟩
theorem bag_ok {E:XK} {ns:List Int} {i:Int} (h:SqL K H a (ns.map V.int)) (h0:0≤i) (h1:i≤100) (hz:ns.length≤1000) (k:∀ b H',H b=none→Ev TS [] H H'→BagB H' b 0→Q (.ref b) H'):spBag K [.ref a,.int i] H Q E:=
 ⟨a,ns,i,rfl,h,h0,h1,hz,fun b l hb hl=>k b _ hb (Ev.new hb) ⟨l,upd_same,hl⟩⟩
theorem take_ok {E:XK} {n:Nat} {many:Int} (h:BagB H b n) (hn:n < 1000000) (h0:0 < many) (h1:many < 2 ^ 200) (k:∀ r H',0≤r→r < many→Ev TS [b] H H'→BagB H' b (n+1)→Q (.int r) H'):spTake [.ref b,.int many] H Q E:=by
 obtain ⟨l,hb,hl⟩:=h
 exact ⟨b,many,l,n,rfl,hb,hl,hn,h0,h1,fun r l' r0 r1 hl'=>k r _ r0 r1 (Ev.setL hb) ⟨l',upd_same,hl'⟩⟩
def LcI (I:List V→Hp→Prop) (D:Addr) (H:Hp):Prop:=∃ acc,H D=some (.lst acc)∧I acc H
theorem lc_put {I:List V→Hp→Prop} {D:Addr} {acc:List V} {y:V} (h:H D=some (.lst acc)) (hz:acc.length < sizeLine) (k:∀ H5,Ev TS [D] H H5→H5 D=some (.lst (acc++[y]))→I (acc++[y]) H5) :
  ∃ acc,H D=some (.lst acc)∧acc.length < sizeLine∧LcI I D (upd H D (.lst (acc++[y]))):=⟨acc,h,hz,acc++[y],upd_same,k _ (Ev.setL h) upd_same⟩
theorem lc_ev {J:It} {n:Nat} {G:Hp→Prop} {Y:Nat→Hp→V→Hp→Prop} (w:Walk J n G Y) {g:TG} {tt:TT} {te:TE} {vs:List Nat} {σ:L2.St} {H1:Hp} {D:Addr} {Qd:Hp→Prop} (hD:H1 D=none) (I:Nat→List V→Hp→Prop) (h0:∀ H2,Ev TS [] H1 H2→H2 D=some (.lst [])→I 0 [] H2) (hG:∀ i acc H,i≤n→I i acc H→H D=some (.lst acc)→G H)
  (hs:∀ i x acc H H',i < n→I i acc H→H D=some (.lst acc)→Y i H x H'→g x (wipe σ vs) H' fun σ2 H2=>wipe σ2 vs=wipe σ vs∧tt σ2 H2 fun b H3 =>
   if b=true then te σ2 H3 fun y H4=>∃ acc,H4 D=some (.lst acc)∧acc.length < sizeLine∧LcI (I (i+1)) D (upd H4 D (.lst (acc++[y]))) else LcI (I (i+1)) D H3) (hd:∀ acc H,I n acc H→H D=some (.lst acc)→Qd H) :
  ∃ W:Nat→Nat→Hp→Prop,(∃ m,W 0 m (upd H1 D (.lst [])))∧∀ i m H,W i m H →
   (J.stop i H∧Qd H)∨(J.go i H∧∃ Nx:Hp→Prop,(∀ H',Nx H'→∃ m',m' < m∧W (i+1) m' H')∧∀ x H',J.yld i H x H'→g x (wipe σ vs) H' fun σ2 H2=>wipe σ2 vs=wipe σ vs∧tt σ2 H2 fun b H3 =>
    if b=true then te σ2 H3 fun y H4=>∃ acc,H4 D=some (.lst acc)∧acc.length < sizeLine∧Nx (upd H4 D (.lst (acc++[y]))) else Nx H3):=by
 refine lc_it w (fun i H=>LcI (I i) D H) ⟨[],upd_same,h0 _ (Ev.new hD) upd_same⟩ (fun i H hi ⟨acc,h1,h2⟩=>hG i acc H hi h2 h1) ?_ (fun H ⟨acc,h1,h2⟩=>hd acc H h2 h1)
 rintro i x H H' hi ⟨acc,h1,h2⟩ y
 exact hs i x acc H H' hi h2 h1 y
theorem a_neD {x y:V} {d e:PyData} (hd:Dp K H x d) (he:Dp K H y e) (sd:SeqAt.shaped d=true) (se:SeqAt.shaped e=true) (k:Q (.bl (!PyData.eqv d e)) H):rNeD K x y H Q:=⟨d,e,hd,he,sd,se,k⟩
theorem a_eqD {x y:V} {d e:PyData} (hd:Dp K H x d) (he:Dp K H y e) (sd:SeqAt.shaped d=true) (se:SeqAt.shaped e=true) (k:Q (.bl (PyData.eqv d e)) H):rEqD K x y H Q:=⟨d,e,hd,he,sd,se,k⟩
def Rz (TS:List (Addr × Str)) (H:Hp) (E:XK) (C:Addr) (fs:List (Str × V)):Prop:=∀ d H',Ev TS [] H H'→H' d=some (.xd fs)→E (.ref C) (some d) H'
theorem Rz.go {E:XK} {C:Addr} {fs:List (Str × V)} (h:Rz TS H E C fs):∀ d,H d=none→E (.ref C) (some d) (upd H d (.xd fs)):=fun d hd=>h d _ (Ev.new hd) upd_same
theorem Rz.ev {E:XK} {C:Addr} {fs:List (Str × V)} (h:Rz TS H E C fs) (e:Ev TS [] H H'):Rz TS H' E C fs:=fun d H2 e2 h2=>h d H2 (e.trans e2 trivial) h2
end
abbrev Ps:=List Str
def DIG:Str:=Str.ofString "0123456789"
def keptL:List Str:=["lists","define","end","take","order","down","keep","turn","new","front","back","any","spot","move","cut","set","pour","into","check","stop","call","maybe","else","repeat","guard"]
def signL:List Str:=["<",">=","=","!="]
def blkL:List Str:=["maybe","repeat","guard"]
def wordB (z:Str):Bool:=decide (1≤z.length∧z.length≤8) && (!decide (z∈keptL) && z.cps.toList.all fun c=>decide (c∈LET.cps.toList))
def nmlB (z:Str):Bool:=decide (1≤z.length∧z.length≤20) && ((z.cps.toList.all fun c=>decide (c∈DIG.cps.toList)) && (decide (z=("0" : Str)) || !decide (z.cps.toList.head? = some 48)))
def testB (ps:Ps):Bool:=decide (ps.length=2) && (decide (ps.getD 0 Str.empty∈signL) && nmlB (ps.getD 1 Str.empty))
def wordsB (ps:Ps):Bool:=ps.all wordB && decide ps.Nodup
structure RS where
 gs:List Ps
 prs:List (Str × Int)
 df:Str × Int
 bl:List Str
 ls:Ps
 pl:List (Str × Str)
 st:Bool
def RS.init:RS:=⟨[],[],(Str.empty,0),[],[],[],false⟩
section
variable {α:Type}
def gk (d:List (Str × α)) (k:Str):Option α:=(d.find? fun p=>decide (p.1=k)).map Prod.snd
def pk (d:List (Str × α)) (k:Str) (v:α):List (Str × α):=if (d.any fun p=>decide (p.1=k))=true then d.map (fun p=>if p.1=k then (p.1,v) else p) else d++[(k,v)]
def kD (f:α→V) (d:List (Str × α)):List (Key × V):=d.map fun p=>(.inr p.1,f p.2)
theorem kD_val (f:α→V) (k:Str):∀ d:List (Str × α),valV (kD f d) (.inr k)=(gk d k).map f
 | []=>rfl
 | p :: d=>by
  by_cases e:p.1=k
  ·have e2:(Sum.inr p.1:Key)=.inr k:=by rw [e]
   have h1:valV (kD f (p :: d)) (.inr k)=some (f p.2):=valV_pos (p:=((.inr p.1:Key),f p.2)) e2
   rw [h1]
   unfold gk
   rw [List.find?_cons,decide_eq_true e]
   rfl
  ·have e2:¬ (Sum.inr p.1:Key)=.inr k:=fun z=>e (Sum.inr.inj z)
   have h1:valV (kD f (p :: d)) (.inr k)=valV (kD f d) (.inr k):=valV_neg (p:=((.inr p.1:Key),f p.2)) e2
   rw [h1,kD_val f k d]
   unfold gk
   rw [List.find?_cons,decide_eq_false e]
theorem kD_any (f:α→V) (k:Str):∀ d:List (Str × α),((kD f d).any fun p=>decide (p.1=(.inr k:Key)))=d.any fun p=>decide (p.1=k)
 | []=>rfl
 | p :: d=>by
  show (decide ((Sum.inr p.1:Key)=.inr k) || (kD f d).any _)=_
  rw [kD_any f k d,List.any_cons,show decide ((Sum.inr p.1:Key)=.inr k)=decide (p.1=k) from decide_eq_decide.mpr ⟨Sum.inr.inj,fun z=>by rw [z]⟩]
theorem kD_put (f:α→V) (d:List (Str × α)) (k:Str) (v:α):putK (kD f d) (.inr k) (f v)=kD f (pk d k v):=by
 unfold putK pk
 rw [kD_any]
 split
 ·unfold kD
  rw [List.map_map,List.map_map]
  refine List.map_congr_left fun p _=>?_
  show (if (Sum.inr p.1:Key)=.inr k then ((Sum.inr p.1:Key),f v) else ((Sum.inr p.1:Key),f p.2))=_
  by_cases e:p.1=k
  ·rw [if_pos (by rw [e])]
   show _=((Sum.inr (if p.1=k then (p.1,v) else p).1:Key),f (if p.1=k then (p.1,v) else p).2)
   rw [if_pos e]
  ·rw [if_neg fun z=>e (Sum.inr.inj z)]
   show _=((Sum.inr (if p.1=k then (p.1,v) else p).1:Key),f (if p.1=k then (p.1,v) else p).2)
   rw [if_neg e]
 ·unfold kD
  rw [List.map_append]
  rfl
theorem kD_len (f:α→V) (d:List (Str × α)):(kD f d).length=d.length:=List.length_map _
theorem pk_length (d:List (Str × α)) (k:Str) (v:α):(pk d k v).length≤d.length+1:=by
 unfold pk
 split
 ·rw [List.length_map]; omega
 ·rw [List.length_append]; simp
end
def p0 (ps:Ps) (i:Nat):Str:=ps.getD i Str.empty
def clash (names g:Ps):Bool:=!decide (g.length=names.length) || names.any fun n=>decide (n∈g)
def accLists (s:RS) (ps:Ps):Option RS:=
 if (!decide (p0 ps 0 = "lists") || (!decide (1≤(ps.drop 1).length∧(ps.drop 1).length≤3) || !wordsB (ps.drop 1)))=true then none
 else if s.gs.any (clash (ps.drop 1))=true then none
 else some { s with gs:=s.gs++[ps.drop 1],ls:=s.ls++ps.drop 1 }
def accDefine (s:RS) (ps:Ps):Option RS:=
 if (!decide (s.bl=[]) || (s.st || !decide (3≤ps.length∧ps.length≤5)))=true then none
 else if (!wordB (p0 ps 1) || ((gk s.prs (p0 ps 1)).isSome || !wordsB (ps.drop 2)))=true then none
 else some { s with bl:=s.bl++[("define" : Str)],df:=(p0 ps 1,((ps.length:Int) - 2)),ls:=ps.drop 2,pl:=[] }
def accEnd (s:RS) (ps:Ps):Option RS:=
 if (!decide (ps.length=1) || decide (s.bl=[]))=true then none
 else if s.bl.getLast? = some ("define" : Str) then some { s with bl:=s.bl.dropLast,prs:=pk s.prs s.df.1 s.df.2,ls:=s.gs.flatten,pl:=[] }
 else some { s with bl:=s.bl.dropLast }
def accElse (s:RS) (ps:Ps):Option RS:=
 if (!decide (ps.length=1) || (decide (s.bl=[]) || !decide (s.bl.getLast? = some ("maybe" : Str))))=true then none
 else some { s with bl:=s.bl.set (s.bl.length - 1) "else" }
def restB (w:Str) (r:Ps):Bool:=
 if w = "order" then decide (r=[]) || decide (r=[("down" : Str)])
 else if w = "keep" then testB r
 else if w = "turn" then decide (r=[])
 else if w = "new" then decide (r=[("front" : Str)]) || (decide (r=[("back" : Str)]) || decide (r=[("any" : Str)]))
 else decide (w = "spot") && (decide (r=[]) || testB r)
def sortOf (w:Str):Str:=if w = "spot" then "spot" else "move"
def accTake (s:RS) (ps:Ps):Option RS:=
 if (decide (ps.length < 4) || (!wordB (p0 ps 1) || !decide (p0 ps 3∈s.ls)))=true then none
 else if (!restB (p0 ps 2) (ps.drop 4) || !decide ((gk s.pl (p0 ps 1)).getD (sortOf (p0 ps 2))=sortOf (p0 ps 2)))=true then none
 else some { s with pl:=pk s.pl (p0 ps 1) (sortOf (p0 ps 2)) }
def simB (s:RS) (ps:Ps):Bool:=
 if p0 ps 0 = "check"∨p0 ps 0 = "stop" then decide (ps.length=1)
 else if p0 ps 0 = "call" then
  if (decide (ps.length < 3) || !decide ((gk s.prs (p0 ps 1)).getD (-1)=(ps.length:Int) - 2))=true then false else (ps.drop 2).all fun n=>decide (n∈s.ls)
 else if p0 ps 0 = "pour" then decide (ps.length=4) && (decide (p0 ps 2 = "into") && (decide (p0 ps 1∈s.ls) && decide (p0 ps 3∈s.ls)))
 else if (!decide (ps.length=if p0 ps 0 = "set" then 4 else 3) || !decide (p0 ps 1∈s.ls))=true then false
 else if p0 ps 0 = "move" then decide ((gk s.pl (p0 ps 2)).getD Str.empty = "move")
 else if (!(decide (p0 ps 0 = "cut") || decide (p0 ps 0 = "set")) || !decide ((gk s.pl (p0 ps 2)).getD Str.empty = "spot"))=true then false
 else decide (p0 ps 0 = "cut") || nmlB (p0 ps 3)
def begun (s:RS):RS:=if s.bl=[] then { s with st:=true } else s
def accLine (s:RS) (k:Nat) (ps:Ps):Option RS:=
 if ps=[] then none
 else if k=0∨k=1∧p0 ps 0 = "lists" then accLists s ps
 else if p0 ps 0 = "define" then accDefine s ps
 else if p0 ps 0 = "end" then accEnd s ps
 else if p0 ps 0 = "else" then accElse s ps
 else if p0 ps 0∈blkL then if ps.length=1 then some { begun s with bl:=(begun s).bl++[p0 ps 0] } else none
 else if p0 ps 0 = "take" then accTake (begun s) ps
 else if simB (begun s) ps=true then some (begun s) else none
def runL (s:RS) (k:Nat):List Ps→Option (List Ps × RS)
 | []=>some ([],s)
 | ps :: r=>match accLine s k ps with
  | none=>none
  | some s'=>match runL s' (k+1) r with
   | none=>none
   | some (sc,s2)=>some (s'.ls :: sc,s2)
theorem runL_snoc:∀ (l:List Ps) (s:RS) (k:Nat) (ps:Ps),runL s k (l++[ps])=(runL s k l).bind fun q=>(accLine q.2 (k+l.length) ps).map fun s'=>(q.1++[s'.ls],s')
 | [],s,k,ps=>by
  show (match accLine s k ps with | none=>none | some s'=>some ([s'.ls],s'))=_
  show _=(accLine s (k+0) ps).map _
  rw [Nat.add_zero]
  cases accLine s k ps <;> rfl
 | x :: l,s,k,ps=>by
  show (match accLine s k x with | none=>none | some s'=>match runL s' (k+1) (l++[ps]) with | none=>none | some (sc,s2)=>some (s'.ls :: sc,s2))=(match accLine s k x with | none=>none | some s'=>match runL s' (k+1) l with | none=>none | some (sc,s2)=>some (s'.ls :: sc,s2):Option (List Ps × RS)).bind _
  cases accLine s k x with
  | none=>rfl
  | some s' =>
   simp only
   rw [runL_snoc l s' (k+1) ps]
   cases runL s' (k+1) l with
   | none=>rfl
   | some q =>
    obtain ⟨sc,s2⟩:=q
    have e:k+(x :: l).length=k+1+l.length:=by rw [List.length_cons]; omega
    show _=(accLine s2 (k+(x :: l).length) ps).map _
    rw [e]
    show (match (accLine s2 (k+1+l.length) ps).map fun s'=>(sc++[s'.ls],s') with | none=>none | some (sc,s2)=>some (s'.ls :: sc,s2))=_
    cases accLine s2 (k+1+l.length) ps <;> rfl
theorem runL_app:∀ (l m:List Ps) (s:RS) (k:Nat),runL s k (l++m)=(runL s k l).bind fun q=>(runL q.2 (k+l.length) m).map fun q2=>(q.1++q2.1,q2.2)
 | [],m,s,k=>by
  show runL s k m=(runL s (k+0) m).map _
  rw [Nat.add_zero]
  cases runL s k m <;> rfl
 | x :: l,m,s,k=>by
  show (match accLine s k x with | none=>none | some s'=>match runL s' (k+1) (l++m) with | none=>none | some (sc,s2)=>some (s'.ls :: sc,s2))=(match accLine s k x with | none=>none | some s'=>match runL s' (k+1) l with | none=>none | some (sc,s2)=>some (s'.ls :: sc,s2):Option (List Ps × RS)).bind _
  cases accLine s k x with
  | none=>rfl
  | some s' =>
   simp only
   rw [runL_app l m s' (k+1)]
   cases runL s' (k+1) l with
   | none=>rfl
   | some q =>
    obtain ⟨sc,s2⟩:=q
    have e:k+(x :: l).length=k+1+l.length:=by rw [List.length_cons]; omega
    show _=(runL s2 (k+(x :: l).length) m).map _
    rw [e]
    show (match (runL s2 (k+1+l.length) m).map fun q2=>(sc++q2.1,q2.2) with | none=>none | some (sc,s2)=>some (s'.ls :: sc,s2))=_
    cases runL s2 (k+1+l.length) m <;> rfl
local macro_rules | `(tactic| walk_at "rd") => `(tactic| repeat (first | (refine ⟨_, rfl, ?_⟩) | (refine ⟨_, _, rfl, rfl, ?_⟩) | (refine ⟨_, _, rfl, ?_⟩) | (refine ⟨rfl, ?_⟩) | (with_reducible refine st_nil ?_) | (with_reducible refine st_cons ?_) | (with_reducible refine st_C ?_)))
local macro_rules | `(tactic| walk_at "isL") => `(tactic| first | assumption | (apply isL.of; assumption) | (apply isL.bag; assumption) | (apply isL.ev; assumption; walk_at "isL"))
local macro_rules | `(tactic| walk_at "isI") => `(tactic| first | assumption | (apply isI.of; assumption) | (apply isI.ev; assumption; walk_at "isI"))
local macro_rules | `(tactic| walk_at "al") => `(tactic| first | assumption | (apply isL.al; walk_at "isL") | (apply isI.al; walk_at "isI") | (apply Al.dK; assumption) | (apply Al.dT; assumption) | (apply Al.ev; assumption; walk_at "al"))
local macro_rules | `(tactic| walk_at "ne") => `(tactic| first | (apply NeH.of; assumption) | (apply NeH.ofs; assumption) | (apply neLI; walk_at "isL"; walk_at "isI") | (apply neIL; walk_at "isI"; walk_at "isL") | (apply Al.ne; assumption; walk_at "al") | (apply Al.ens; assumption; walk_at "al") | (apply NA.ne; assumption; walk_at "al") | (apply NA.ens; assumption; walk_at "al"))
local macro_rules | `(tactic| walk_at "nin") => `(tactic| first | exact trivial | (refine And.intro ?_ ?_; walk_at "ne"; walk_at "nin"))
local macro_rules | `(tactic| walk_at "t") => `(tactic| first | assumption | (apply ev_tup; assumption; walk_at "t") | (apply ev_lst; assumption; walk_at "t"; walk_at "nin") | (apply ev_ins; assumption; walk_at "t"; walk_at "nin") | (apply ev_dK; assumption; walk_at "t"; walk_at "nin") | (apply ev_dT; assumption; walk_at "t"; walk_at "nin") | (apply ev_bag; assumption; walk_at "t"; walk_at "nin") | (apply ev_tabs; assumption; walk_at "t") | (apply ev_fzT; assumption; walk_at "t") | (apply SqL.of; walk_at "t") | (apply SqT.of; walk_at "t") | (apply ev_sqT; assumption; walk_at "t") | (apply ev_sqL; assumption; walk_at "t"; walk_at "nin"))
local macro_rules | `(tactic| walk_at "le") => `(tactic| first | exact Le.refl _ | (apply Le.ev; assumption; walk_at "le"))
local macro_rules | `(tactic| walk_at "om") => `(tactic| first | exact Or.inl (List.mem_cons_self) | exact Or.inl (List.mem_cons_of_mem _ List.mem_cons_self) | exact Or.inl (List.mem_cons_of_mem _ (List.mem_cons_of_mem _ List.mem_cons_self)) | (apply Or.inr; apply nal0; assumption) | (apply Or.inr; apply Le.nal; assumption; walk_at "le") | (apply Or.inr; apply Le.na; assumption; walk_at "le"))
local macro_rules | `(tactic| walk_at "out") => `(tactic| first | exact trivial | (refine And.intro ?_ ?_; walk_at "om"; walk_at "out"))
local macro_rules | `(tactic| walk_at "e") => `(tactic| first | assumption | exact Ev.refl _ _ | (apply Ev.trans'; assumption; walk_at "e"; walk_at "out"))
local macro_rules | `(tactic| walk_at "c") => `(tactic| dsimp only [tNil, tCons, tC])
local macro_rules | `(tactic| walk_at "na") => `(tactic| first | assumption | (apply NA.of; assumption) | (apply Le.nal; assumption; walk_at "le") | (apply Le.na; assumption; walk_at "le"))
local macro_rules | `(tactic| walk_at "rs") => `(tactic| repeat (first | (with_reducible refine st_nil ?_) | (with_reducible refine st_cons ?_) | (with_reducible refine st_C ?_)))
local macro_rules | `(tactic| walk_at "rv") => `(tactic| repeat (first | (refine ⟨_, rfl, ?_⟩) | (with_reducible refine st_nil ?_) | (with_reducible refine st_cons ?_) | (with_reducible refine st_C ?_)))
local macro_rules | `(tactic| walk_at "if") => `(tactic| first | refine ifT rfl ?_ | refine ifF rfl ?_ | skip)
structure TxtP (K:PySem.W.Frag) (mg:Str→Option Value) (KPT SGN MVG BLK:Addr):Prop extends Blt mg where
 n_bool:mg "bool"=none
 n_all:mg "all"=none
 n_any:mg "any"=none
 n_set:mg "set"=none
 g_letters:∃ u,mg "LETTERS"=some u∧RelV (.str LET) u
 g_digits:∃ u,mg "DIGITS"=some u∧RelV (.int 20) u
 g_kept:∃ u,mg "KEPT"=some u∧RelV (.ref KPT) u
 g_signs:∃ u,mg "SIGNS"=some u∧RelV (.ref SGN) u
 g_blocks:∃ u,mg "BLOCKS"=some u∧RelV (.ref BLK) u
 kept:∀ H:Hp,SqT K H KPT (keptL.map V.str)
 signs:∀ H:Hp,SqT K H SGN (signL.map V.str)
 blocks:∀ H:Hp,SqT K H BLK (blkL.map V.str)
theorem inV_strs (v:Str):∀ ps:List Str,inV (.str v) (ps.map V.str)=decide (v∈ps)
 | []=>rfl
 | p :: r=>by
  have ih:=inV_strs v r
  show ((p == v) || inV (.str v) (r.map V.str))=_
  rw [ih]
  by_cases e:v=p
  ·subst e
   simp
  ·have:(p == v)=false:=beq_eq_false_iff_ne.mpr fun z=>e z.symm
   rw [this,Bool.false_or]
   exact decide_eq_decide.mpr ⟨fun z=>List.mem_cons_of_mem _ z,fun z=>(List.mem_cons.mp z).resolve_left e⟩
theorem dec_str (a b:Str):decide (V.str a=V.str b)=decide (a=b):=decide_eq_decide.mpr ⟨fun z=>V.str.inj z,fun z=>by rw [z]⟩
theorem len_cps (z:Str):z.cps.toList.length=z.length:=by simp [Str.length]
def spIsWord (TS:List (Addr × Str)):Sp:=fun vs H Q _=>∃ z,vs=[.str z]∧z.length≤100000∧∀ H',Ev TS [] H H'→Q (.bl (wordB z)) H'
def spIsNml (TS:List (Addr × Str)):Sp:=fun vs H Q _=>∃ z,vs=[.str z]∧z.length≤100000∧∀ H',Ev TS [] H H'→Q (.bl (nmlB z)) H'
def spIsTest (TS:List (Addr × Str)):Sp:=fun vs H Q _=>∃ p ps,vs=[.ref p]∧H p=some (.lst (ps.map V.str))∧(∀ z∈ps,z.length≤100000)∧∀ H',Ev TS [] H H'→Q (.bl (testB ps)) H'
def spAreW (TS:List (Addr × Str)):Sp:=fun vs H Q _=>∃ p ps,vs=[.ref p]∧H p=some (.lst (ps.map V.str))∧(∀ z∈ps,z.length≤100000)∧ps.length≤1000∧∀ H',Ev TS [] H H'→Q (.bl (wordsB ps)) H'
theorem all_map_bl {α:Type} (f:α→Bool):∀ l:List α,(l.map f).all id=l.all f
 | []=>rfl
 | x :: l=>by rw [List.map_cons,List.all_cons,List.all_cons,all_map_bl f l]; rfl
theorem a_ixS {K:PySem.W.Frag} {H:Hp} {p:Addr} {ps:Ps} {Q:VK} (j:Nat) (h:H p=some (.lst (ps.map V.str))) (hj:j < ps.length) (k:Q (.str (ps.getD j Str.empty)) H):rIxL K (.ref p) (.int (j:Int)) H Q:=by
 refine ⟨p,_,(j:Int),.str (ps.getD j Str.empty),rfl,rfl,SqL.of h,?_,k⟩
 unfold atI
 rw [ixN_nat (by rw [List.length_map]; exact hj)]
 show (ps.map V.str)[j]? = _
 rw [List.getElem?_map,List.getElem?_eq_getElem hj,List.getD_eq_getElem?_getD,List.getElem?_eq_getElem hj]
 rfl
section
variable {P:Program} {w:World} {K:PySem.W.Frag} {mg:Str→Option Value} {base:Heap} {KPT SGN MVG BLK:Addr} {TS:List (Addr × Str)}
theorem sc_isword:FnScope ["value","letter"] ["value"] (defScope s_isword):=⟨rfl,rfl,rfl,by decide +kernel,rfl,by decide +kernel,by decide +kernel⟩
theorem ok_isword {f:Addr} {fd:FuncData} (F:Fun K "is_word" "is_word" s_isword f fd) (T:TxtP K mg KPT SGN MVG BLK):FnR P w K mg base CX0 1 f (spIsWord TS):=by
 refine fnr F sc_isword (fun vs H Q E h=>?_) (fun _ _ _ _ _ _ us hl=>match us,hl with | [_],_=>rfl) (fun cdv A outer s H vs Q E hr h=>?_)
 ·obtain ⟨z,rfl,_⟩:=h
  rfl
 ·obtain ⟨z,rfl,hz,k⟩:=h
  refine ⟨_,(pss_cons (ps_if (PW.pt (pw_or (pt_not (pt_val (pe_callB call_isi (by rfl) T.n_isinstance (by decide +kernel) (pa_cons (pv 0) (pa_cons (pe_bltn (v:=.ty "str") (by rfl) T.n_str (by decide +kernel) rfl) pa_nil))))) (pw_or (pt_not (pt_chain op_le op_le pe_int (pe_callB call_len_str (by rfl) T.n_len (by decide +kernel) (pa_cons (pv 0) pa_nil)) pe_int)) (pw_or1 (pt_cmpR op_in_seq (pv 0) (C8.pe_gc (v:=.ref KPT) (by rfl) T.g_kept) rfl))))) (pss_one (ps_ret pe_bl)) pss_nil)
   (pss_one (ps_ret (pe_callB (cr_all rfl) (by rfl) T.n_all (by decide +kernel) (pa_cons (pe_lc (own:=[("letter",1)]) (by rfl) sc_isword.nd (pi_str (pv 0)) (blkOk_by (own:=[("letter",1)]) (N:=["value","letter"]) (sc:=defScope s_isword) (by first | decide +kernel | kernel_rfl)) (fun _ _ _ _ _=>(pg_name (i:=1) sc_isword.nd rfl (Or.inl rfl))) (fun _ _ _ _ _=>by exact pts_nil) (fun _ _ _ _ _=>by exact (pe_cmpR op_in_sign (pv 1) (C8.pe_gc (v:=.str LET) (by rfl) T.g_letters) (by rfl)))) pa_nil))))),?_⟩
  walk_at "rd"
  refine ⟨_,_,_,_,_,rfl,.ty _,.base (.str z),kit_ty (r:=true) (by decide +kernel),?_⟩
  walk_at "rd"
  refine ⟨le_line (by omega),?_⟩
  walk_at "rd"
  have bad:¬ (1≤z.length∧z.length≤8)→wordB z=false:=fun h=>by unfold wordB; rw [decide_eq_false h]; rfl
  refine ite2 (fun c=>?_) (fun c=>?_)
  ·have c1:1≤(z.length:Int):=of_decide_eq_true c
   walk_at "rd"
   refine ite2 (fun c2=>?_) (fun c2=>?_)
   ·have d2:¬ ((z.length:Int)≤8):=by simpa using c2
    walk_at "rd"
    have:=k _ (Ev.refl _ H)
    rw [bad (by omega)] at this
    exact this
   ·have d2:(z.length:Int)≤8:=by simpa using c2
    have hl:1≤z.length∧z.length≤8:=by omega
    walk_at "rd"
    refine ⟨KPT,_,rfl,.inr (T.kept _),rfl,flat_strs _,?_⟩
    rw [if_neg (by decide),inV_strs]
    walk_at "rd"
    by_cases hm:z∈keptL
    ·refine ifT (decide_eq_true hm) ?_
     walk_at "rd"
     have e:wordB z=false:=by unfold wordB; rw [decide_eq_true hm,decide_eq_true hl]; rfl
     have:=k _ (Ev.refl _ H)
     rw [e] at this
     exact this
    ·refine ifF (decide_eq_false hm) ?_
     walk_at "rd"
     refine fun D hD=>lc_ev (TS:=TS) walk_str hD (fun i acc H'=>Ev TS [] H H'∧acc=((z.cps.toList.take i).map fun c=>decide (c∈LET.cps.toList)).map V.bl) (fun H2 e2 h2=>⟨e2,by simp⟩) (fun _ _ _ _ _ _=>trivial) ?_ ?_
     ·rintro i x acc Hz H' hi ⟨e1,rfl⟩ hD' ⟨rfl,cc,hcc,rfl⟩
      have ec:z.cps.toList[i]? = some cc:=by rw [Array.getElem?_toList]; exact hcc
      have tk:z.cps.toList.take (i+1)=z.cps.toList.take i++[cc]:=by
       rw [List.take_add_one,ec]
       rfl
      walk_at "rd"
      refine lc_put (TS:=TS) hD' (by rw [List.length_map,List.length_map,List.length_take]; exact lt_line (by rw [len_cps]; omega)) fun H5 e5 h5=>?_
      have nd:NA H D:=.of hD
      refine ⟨Ev.trans e1 e5 ⟨.inr nd,trivial⟩,?_⟩
      rw [tk,List.map_append,List.map_append]
      rfl
     ·rintro acc H2 ⟨e2,rfl⟩ hD2
      have ez:z.cps.size=z.cps.toList.length:=by simp
      rw [ez,List.take_length] at hD2
      refine ⟨D,_,rfl,SqL.of hD2,?_⟩
      have e:((z.cps.toList.map fun c=>decide (c∈LET.cps.toList)).all id)=wordB z:=by
       unfold wordB
       rw [decide_eq_true hl,decide_eq_false hm,List.all_map]
       rfl
      rw [e]
      exact k _ e2
  ·have c1:¬ 1≤(z.length:Int):=fun y=>c (decide_eq_true y)
   walk_at "rd"
   have:=k _ (Ev.refl _ H)
   rw [bad (by omega)] at this
   exact this
theorem sc_isnml:FnScope ["part","sign"] ["part"] (defScope s_isnml):=⟨rfl,rfl,rfl,by decide +kernel,rfl,by decide +kernel,by decide +kernel⟩
theorem ok_isnml {f:Addr} {fd:FuncData} (F:Fun K "is_numeral" "is_numeral" s_isnml f fd) (T:TxtP K mg KPT SGN MVG BLK):FnR P w K mg base CX0 1 f (spIsNml TS):=by
 refine fnr F sc_isnml (fun vs H Q E h=>?_) (fun _ _ _ _ _ _ us hl=>match us,hl with | [_],_=>rfl) (fun cdv A outer s H vs Q E hr h=>?_)
 ·obtain ⟨z,rfl,_⟩:=h
  rfl
 ·obtain ⟨z,rfl,hz,k⟩:=h
  refine ⟨_,(pss_cons (ps_if (PW.pt (pw_or (pt_not (pt_chain op_le op_le pe_int (pe_callB call_len_str (by rfl) T.n_len (by decide +kernel) (pa_cons (pv 0) pa_nil)) (C8.pe_gc (v:=.int 20) (by rfl) T.g_digits))) (pw_or1 (pt_not (pt_val (pe_callB (cr_all rfl) (by rfl) T.n_all (by decide +kernel) (pa_cons (pe_lc (own:=[("sign",1)]) (by rfl) sc_isnml.nd (pi_str (pv 0)) (blkOk_by (own:=[("sign",1)]) (N:=["part","sign"]) (sc:=defScope s_isnml) (by first | decide +kernel | kernel_rfl)) (fun _ _ _ _ _=>(pg_name (i:=1) sc_isnml.nd rfl (Or.inl rfl))) (fun _ _ _ _ _=>by exact pts_nil) (fun _ _ _ _ _=>by exact (pe_cmpR op_in_sign (pv 1) pe_str (by rfl)))) pa_nil))))))) (pss_one (ps_ret pe_bl)) pss_nil)
   (pss_one (ps_ret (pe_or (pe_cmpR op_eq (pv 0) pe_str (nomark _)) (pe_one (pe_cmpR op_ne (pe_ix ix_str (pv 0) pe_int (fun _ _=>rfl)) pe_str (nomark _))))))),?_⟩
  walk_at "rd"
  refine ⟨le_line (by omega),?_⟩
  walk_at "rd"
  have bad:¬ (1≤z.length∧z.length≤20)→nmlB z=false:=fun h=>by unfold nmlB; rw [decide_eq_false h]; rfl
  refine ite2 (fun c=>?_) (fun c=>?_)
  ·have c1:1≤(z.length:Int):=of_decide_eq_true c
   walk_at "rd"
   refine ite2 (fun c2=>?_) (fun c2=>?_)
   ·have d2:¬ ((z.length:Int)≤20):=by simpa using c2
    walk_at "rd"
    have:=k _ (Ev.refl _ H)
    rw [bad (by omega)] at this
    exact this
   ·have d2:(z.length:Int)≤20:=by simpa using c2
    have hl:1≤z.length∧z.length≤20:=by omega
    walk_at "rd"
    refine fun D hD=>lc_ev (TS:=TS) walk_str hD (fun i acc H'=>Ev TS [] H H'∧acc=((z.cps.toList.take i).map fun c=>decide (c∈DIG.cps.toList)).map V.bl) (fun H2 e2 h2=>⟨e2,by simp⟩) (fun _ _ _ _ _ _=>trivial) ?_ ?_
    ·rintro i x acc Hz H' hi ⟨e1,rfl⟩ hD' ⟨rfl,cc,hcc,rfl⟩
     have ec:z.cps.toList[i]? = some cc:=by rw [Array.getElem?_toList]; exact hcc
     have tk:z.cps.toList.take (i+1)=z.cps.toList.take i++[cc]:=by
      rw [List.take_add_one,ec]
      rfl
     walk_at "rd"
     refine lc_put (TS:=TS) hD' (by rw [List.length_map,List.length_map,List.length_take]; exact lt_line (by rw [len_cps]; omega)) fun H5 e5 h5=>?_
     have nd:NA H D:=.of hD
     refine ⟨Ev.trans e1 e5 ⟨.inr nd,trivial⟩,?_⟩
     rw [tk,List.map_append,List.map_append]
     rfl
    ·rintro acc H2 ⟨e2,rfl⟩ hD2
     have ez:z.cps.size=z.cps.toList.length:=by simp
     rw [ez,List.take_length] at hD2
     refine ⟨D,_,rfl,SqL.of hD2,?_⟩
     rw [all_map_bl]
     have hne:z.cps.toList≠[]:=fun e=>by
      have e1:z.length=z.cps.toList.length:=by simp [Str.length]
      rw [e] at e1
      simp only [List.length_nil] at e1
      omega
     obtain ⟨c0,cr,ec0⟩:=List.exists_cons_of_ne_nil hne
     have fin:nmlB z=((z.cps.toList.all fun c=>decide (c∈DIG.cps.toList)) && (decide (z=("0" : Str)) || !decide (c0=48))):=by
      unfold nmlB
      rw [decide_eq_true hl,Bool.true_and]
      have:decide (z.cps.toList.head? = some 48)=decide (c0=48):=by
       rw [ec0]
       exact decide_eq_decide.mpr ⟨fun z=>Option.some.inj z,fun z=>by rw [z]; rfl⟩
      rw [this]
     have k2:=k _ e2
     rw [fin] at k2
     cases hall:(z.cps.toList.all fun c=>decide (c∈DIG.cps.toList)) with
     | false =>
      rw [hall] at k2
      walk_at "rd"
      exact k2
     | true =>
      rw [hall,Bool.true_and] at k2
      walk_at "rd"
      rw [dec_str]
      by_cases hz0:z=("0" : Str)
      ·rw [decide_eq_true hz0,Bool.true_or] at k2
       exact ifT (decide_eq_true hz0) k2
      ·rw [decide_eq_false hz0,Bool.false_or] at k2
       refine ifF (decide_eq_false hz0) ?_
       walk_at "rd"
       refine ⟨z,0,c0,rfl,rfl,le_line (by omega),by rw [ec0]; unfold atI; rw [show ((0:Int))=((0:Nat):Int) from rfl,ixN_nat (by simp)]; rfl,?_⟩
       walk_at "rd"
       have e:(!decide (V.str ⟨#[c0]⟩=V.str (Str.ofString "0"))) = !decide (c0=48):=by
        rw [dec_str]
        have:decide ((⟨#[c0]⟩ : Str)=Str.ofString "0")=decide (c0=48):=decide_eq_decide.mpr ⟨fun z=>by
         have e0:Str.ofString "0"=⟨#[48]⟩:=by decide +kernel
         rw [e0] at z
         injection z with z
         simpa using z,fun z=>by rw [z]; decide +kernel⟩
        rw [this]
       (rw [e]; exact k2)
  ·have c1:¬ 1≤(z.length:Int):=fun y=>c (decide_eq_true y)
   walk_at "rd"
   have:=k _ (Ev.refl _ H)
   rw [bad (by omega)] at this
   exact this
theorem sc_istest:FnScope ["parts"] ["parts"] (defScope s_istest):=⟨rfl,rfl,rfl,by decide +kernel,rfl,by decide +kernel,by decide +kernel⟩
theorem ok_istest {f:Addr} {fd:FuncData} (F:Fun K "is_test" "is_test" s_istest f fd) (T:TxtP K mg KPT SGN MVG BLK) (Disnml:Cl P w K mg base CX0 1 "is_numeral" (spIsNml TS)):FnR P w K mg base CX0 2 f (spIsTest TS):=by
 refine fnr F sc_istest (fun vs H Q E h=>?_) (fun _ _ _ _ _ _ us hl=>match us,hl with | [_],_=>rfl) (fun cdv A outer s H vs Q E hr h=>?_)
 ·obtain ⟨p,ps,rfl,_⟩:=h
  rfl
 ·obtain ⟨p,ps,rfl,hp,hz,k⟩:=h
  refine ⟨_,(pss_one (ps_ret (pe_and (pe_cmpR op_eq (pe_callB call_len_seq (by rfl) T.n_len (by decide +kernel) (pa_cons (pv 0) pa_nil)) pe_int (nomark _)) (pe_and (pe_cmpR op_in_seq (pe_ix ix_list (pv 0) pe_int (fun _ _=>rfl)) (C8.pe_gc (v:=.ref SGN) (by rfl) T.g_signs) rfl) (pe_one (pe_cl Disnml hr (by decide) (by rfl) pass0 (pa_cons (pe_ix ix_list (pv 0) pe_int (fun _ _=>rfl)) pa_nil))))))),?_⟩
  walk_at "rd"
  refine ⟨p,_,rfl,.inl (SqL.of hp),?_⟩
  rw [List.length_map]
  walk_at "rd"
  have bad:¬ ps.length=2→testB ps=false:=fun h=>by unfold testB; rw [decide_eq_false h]; rfl
  refine ite2 (fun c=>?_) (fun c=>?_)
  ·have c1:ps.length=2:=by
    have:=of_decide_eq_true c
    first | omega | (injection this with this; omega)
   obtain ⟨a,b,rfl⟩ : ∃ a b,ps=[a,b]:=by
    match ps,c1 with
    | [a,b],_=>exact ⟨a,b,rfl⟩
   walk_at "rd"
   refine a_ixS 0 hp (by simp) ?_
   walk_at "rd"
   refine ⟨SGN,_,rfl,.inr (T.signs _),rfl,flat_strs _,?_⟩
   rw [if_neg (by decide),inV_strs]
   have k2:=fun H' e=>k H' e
   unfold testB at k2
   rw [decide_eq_true (show [a,b].length=2 from rfl),Bool.true_and] at k2
   walk_at "rd"
   by_cases hs:a∈signL
   ·refine ifT (decide_eq_true hs) ?_
    walk_at "rd"
    refine a_ixS 1 hp (by simp) ?_
    walk_at "rd"
    refine ⟨hz b (by simp),fun H1 e1=>?_⟩
    have k3:=k2 H1 e1
    rw [show decide ((([a,b]:Ps).getD 0 Str.empty)∈signL)=true from decide_eq_true hs,Bool.true_and] at k3
    exact k3
   ·refine ifF (decide_eq_false hs) ?_
    have k3:=k2 _ (Ev.refl _ H)
    rw [show decide ((([a,b]:Ps).getD 0 Str.empty)∈signL)=false from decide_eq_false hs,Bool.false_and] at k3
    exact k3
  ·have c1:¬ ps.length=2:=fun z=>c (by rw [z]; rfl)
   have:=k _ (Ev.refl _ H)
   rw [bad c1] at this
   exact this
theorem sc_arewords:FnScope ["parts","part"] ["parts"] (defScope s_arewords):=⟨rfl,rfl,rfl,by decide +kernel,rfl,by decide +kernel,by decide +kernel⟩
theorem ok_arewords {f:Addr} {fd:FuncData} (F:Fun K "are_words" "are_words" s_arewords f fd) (T:TxtP K mg KPT SGN MVG BLK) (Disword:Cl P w K mg base CX0 1 "is_word" (spIsWord TS)):FnR P w K mg base CX0 2 f (spAreW TS):=by
 refine fnr F sc_arewords (fun vs H Q E h=>?_) (fun _ _ _ _ _ _ us hl=>match us,hl with | [_],_=>rfl) (fun cdv A outer s H vs Q E hr h=>?_)
 ·obtain ⟨p,ps,rfl,_⟩:=h
  rfl
 ·obtain ⟨p,ps,rfl,hp,hz,hl,k⟩:=h
  refine ⟨_,(pss_one (ps_ret (pe_and (pe_callB (cr_all rfl) (by rfl) T.n_all (by decide +kernel) (pa_cons (pe_lc (own:=[("part",1)]) (by rfl) sc_arewords.nd (pi_list (pv 0)) (blkOk_by (own:=[("part",1)]) (N:=["parts","part"]) (sc:=defScope s_arewords) (by first | decide +kernel | kernel_rfl)) (fun _ _ _ _ _=>(pg_name (i:=1) sc_arewords.nd rfl (Or.inl rfl))) (fun _ _ _ _ _=>by exact pts_nil) (fun _ _ _ _ _=>by exact (pe_cl Disword hr (by decide) (by rfl) pass0 (pa_cons (pv 1) pa_nil)))) pa_nil)) (pe_one (pe_cmpR op_eq (pe_lenSetS rfl (by rfl) T.n_len (by rfl) T.n_set (pv 0)) (pe_callB call_len_seq (by rfl) T.n_len (by decide +kernel) (pa_cons (pv 0) pa_nil)) (nomark _)))))),?_⟩
  walk_at "rd"
  refine ⟨⟨_,SqL.of hp⟩,?_⟩
  walk_at "rd"
  refine fun D hD=>lc_ev (TS:=TS) walk_list hD (fun i acc H'=>Ev TS [] H H'∧acc=((ps.take i).map wordB).map V.bl) (fun H2 e2 h2=>⟨e2,by simp⟩) (fun i acc H' _ hI _=>ev_sqL hI.1 (SqL.of hp) trivial) ?_ ?_
  ·rintro i x acc Hz H' hi ⟨e1,rfl⟩ hD' ⟨rfl,hx⟩
   have hi':i < ps.length:=by simpa using hi
   obtain ⟨z,ez,rfl⟩ : ∃ z,ps[i]? = some z∧x=V.str z:=by
    rw [List.getElem?_map,List.getElem?_eq_getElem hi'] at hx
    exact ⟨_,List.getElem?_eq_getElem hi',(Option.some.inj hx).symm⟩
   have tk:ps.take (i+1)=ps.take i++[z]:=by
    rw [List.take_add_one,ez]
    rfl
   walk_at "rd"
   refine ⟨hz z (List.mem_of_getElem? ez),fun H2 e2=>?_⟩
   have nd:NA H D:=.of hD
   have e12:=Ev.trans e1 e2 trivial
   refine lc_put (TS:=TS) (show H2 D=some _ from ev_lst e2 hD' trivial) (by rw [List.length_map,List.length_map,List.length_take]; exact lt_line (by omega)) fun H5 e5 h5=>?_
   refine ⟨Ev.trans e12 e5 ⟨.inr nd,trivial⟩,?_⟩
   rw [tk,List.map_append,List.map_append]
   rfl
  ·rintro acc H2 ⟨e2,rfl⟩ hD2
   rw [List.length_map,List.take_length] at hD2
   refine ⟨D,_,rfl,SqL.of hD2,?_⟩
   rw [all_map_bl]
   have k2:=k _ e2
   unfold wordsB at k2
   cases hall:ps.all wordB with
   | false =>
    rw [hall] at k2
    walk_at "rd"
    exact k2
   | true =>
    rw [hall,Bool.true_and] at k2
    walk_at "rd"
    refine ⟨p,ps,rfl,SqL.of (ev_lst e2 hp trivial),by omega,?_⟩
    walk_at "rd"
    refine ⟨p,_,rfl,.inl (SqL.of (ev_lst e2 hp trivial)),?_⟩
    walk_at "rd"
    rw [List.length_map]
    have e:decide (V.int ((seenS ps).length:Int)=V.int (ps.length:Int))=decide ps.Nodup:=by
     rw [← seenS_dec]
     exact decide_eq_decide.mpr ⟨fun z=>by injection z with z; omega,fun z=>by rw [z]⟩
    (rw [e]; exact k2)
end
section
variable {K:PySem.W.Frag} {H H':Hp} {p q:Addr} {Q:VK} {TS:List (Addr × Str)}
theorem pi_tupK {X:Cx} {tg l:Expr} {tl:TE} (hK:X.K=K) (hl:PE X l tl):PI X tg l (iTup K tl):=hK ▸ pi_tup hl
def isDk (H:Hp) (p:Addr):Prop:=∃ kvs,H p=some (.dK kvs)
theorem isDk.of {kvs:List (Key × V)} (h:H p=some (.dK kvs)):isDk H p:=⟨_,h⟩
theorem isDk.ev {L:List Addr} (e:Ev TS L H H') (h:isDk H p):isDk H' p:=by
 obtain ⟨kvs,h⟩:=h
 obtain ⟨o',h',kws,rfl⟩:=e.kd p _ h fun _ z=>by cases z
 exact ⟨kws,h'⟩
theorem neLD (h:isL H p) (h':isDk H q):NeH H p q:=by
 obtain ⟨xs,h⟩:=h
 obtain ⟨kvs,h'⟩:=h'
 exact ne_of h h' (by intro z; cases z)
theorem neDL (h:isDk H p) (h':isL H q):NeH H p q:=(neLD h' h).symm
theorem neID (h:isI H p) (h':isDk H q):NeH H p q:=by
 obtain ⟨C,dx,fs,h⟩:=h
 obtain ⟨kvs,h'⟩:=h'
 exact ne_of h h' (by intro z; cases z)
theorem neDI (h:isDk H p) (h':isI H q):NeH H p q:=(neID h' h).symm
def StrsOk (xs:List Str):Prop:=∀ z∈xs,PyData.strOk z=true
theorem dpAll_strs:∀ ns:List Str,DpAll K H (ns.map V.str) (ns.map PyData.str)
 | []=>.nil
 | n :: r=>.cons (.str n) (dpAll_strs r)
theorem dp_strs {ns:List Str} (h:SqL K H p (ns.map V.str)):Dp K H (.ref p) (.list (ns.map PyData.str)):=.lst h (dpAll_strs ns)
theorem sh_strs {ns:List Str} (h:StrsOk ns):∀ d∈ns.map PyData.str,Sh d:=fun d hd=>by
 obtain ⟨n,hn,rfl⟩:=List.mem_map.mp hd
 exact ⟨h n hn,Nat.zero_le _⟩
theorem sh_strsL {ns:List Str} (h:StrsOk ns):Sh (.list (ns.map PyData.str)):=(sh_seq (k:=0) (fun d hd=>by
 obtain ⟨n,hn,rfl⟩:=List.mem_map.mp hd
 exact ⟨h n hn,Nat.zero_le _⟩) (by decide)).1
theorem eqvAll_strs:∀ a b:List Str,PyData.eqvAll (a.map PyData.str) (b.map PyData.str)=decide (a=b)
 | [],[]=>rfl
 | [],_ :: _=>rfl
 | _ :: _,[]=>rfl
 | x :: a,y :: b=>by
  show (PyData.eqv (.str x) (.str y) && PyData.eqvAll (a.map PyData.str) (b.map PyData.str))=decide (x :: a=y :: b)
  rw [eqvAll_strs a b]
  have e:PyData.eqv (.str x) (.str y)=decide (x=y):=by
   unfold PyData.eqv
   exact Bool.beq_eq_decide_eq x y
  rw [e,← Bool.decide_and]
  exact decide_eq_decide.mpr ⟨fun h=>by rw [h.1,h.2],fun h=>by injection h with h1 h2; exact ⟨h1,h2⟩⟩
theorem a_eqSL {xs ys:List Str} (hp:SqL K H p (xs.map V.str)) (hq:SqL K H q (ys.map V.str)) (hx:StrsOk xs) (hy:StrsOk ys) (k:Q (.bl (decide (xs=ys))) H):rEqD K (.ref p) (.ref q) H Q:=by
 refine a_eqD (dp_strs hp) (dp_strs hq) (shaped_list (sh_strs hx)) (shaped_list (sh_strs hy)) ?_
 rw [eqv_list,eqvAll_strs]
 exact k
theorem a_neSL {xs ys:List Str} (hp:SqL K H p (xs.map V.str)) (hq:SqL K H q (ys.map V.str)) (hx:StrsOk xs) (hy:StrsOk ys) (k:Q (.bl (!decide (xs=ys))) H):rNeD K (.ref p) (.ref q) H Q:=by
 refine a_neD (dp_strs hp) (dp_strs hq) (shaped_list (sh_strs hx)) (shaped_list (sh_strs hy)) ?_
 rw [eqv_list,eqvAll_strs]
 exact k
theorem strsOk_nil:StrsOk []:=fun _ z=>nomatch z
theorem StrsOk.sub {xs ys:List Str} (h:StrsOk xs) (e:∀ z∈ys,z∈xs):StrsOk ys:=fun z hz=>h z (e z hz)
theorem atI_nat {α:Type} {xs:List α} {j:Nat} (h:j < xs.length):atI xs (j:Int)=xs[j]?:=by
 unfold atI
 rw [ixN_nat h]
 rfl
theorem atI_last {α:Type} {xs:List α} (h:0 < xs.length):atI xs (-1)=xs.getLast?:=by
 unfold atI ixN
 rw [if_neg (by omega),if_pos (by omega)]
 show xs[((-1:Int)+(xs.length:Int)).toNat]? = _
 rw [List.getLast?_eq_getElem?]
 congr 1
 omega
theorem cut_fromA (xs:List V) (k:Nat):cutV xs (some (k:Int)) none=xs.drop k:=by
 unfold cutV
 rw [HT.sIx_none,HT.sIx_nat]
 by_cases h:k≤xs.length
 ·rw [Nat.min_eq_left h,List.take_of_length_le (by rw [List.length_drop]; omega)]
 ·rw [Nat.min_eq_right (by omega),Nat.sub_self,List.take_zero,List.drop_of_length_le (by omega)]
theorem a_slSfrom {ps:Ps} (k:Nat) (h:H p=some (.lst (ps.map V.str))) (q:∀ p' H',H p'=none→Ev TS [] H H'→H' p'=some (.lst ((ps.drop k).map V.str))→Q (.ref p') H'):rSlL K (.ref p) (some (k:Int)) none H Q:=
 ⟨p,_,rfl,SqL.of h,fun p' hp'=>q p' _ hp' (Ev.new hp') (by rw [cut_fromA,← List.map_drop]; exact upd_same)⟩
end
local macro_rules | `(tactic| walk_at "isD") => `(tactic| first | assumption | (apply isDk.of; assumption) | (apply isDk.ev; assumption; walk_at "isD"))
local macro_rules | `(tactic| walk_at "ne") => `(tactic| first | (apply NeH.of; assumption) | (apply NeH.ofs; assumption) | (apply neLI; walk_at "isL"; walk_at "isI") | (apply neIL; walk_at "isI"; walk_at "isL") | (apply neLD; walk_at "isL"; walk_at "isD") | (apply neDL; walk_at "isD"; walk_at "isL") | (apply neID; walk_at "isI"; walk_at "isD") | (apply neDI; walk_at "isD"; walk_at "isI") | (apply Al.ne; assumption; walk_at "al") | (apply Al.ens; assumption; walk_at "al") | (apply NA.ne; assumption; walk_at "al") | (apply NA.ens; assumption; walk_at "al"))
local macro_rules | `(tactic| walk_at "om") => `(tactic| first | exact Or.inl (List.mem_cons_self) | exact Or.inl (List.mem_cons_of_mem _ List.mem_cons_self) | exact Or.inl (List.mem_cons_of_mem _ (List.mem_cons_of_mem _ List.mem_cons_self)) | exact Or.inl (List.mem_cons_of_mem _ (List.mem_cons_of_mem _ (List.mem_cons_of_mem _ List.mem_cons_self))) | exact Or.inl (List.mem_cons_of_mem _ (List.mem_cons_of_mem _ (List.mem_cons_of_mem _ (List.mem_cons_of_mem _ List.mem_cons_self)))) | (apply Or.inr; apply nal0; assumption) | (apply Or.inr; apply Le.nal; assumption; walk_at "le") | (apply Or.inr; apply Le.na; assumption; walk_at "le"))
structure TxtRd (K:PySem.W.Frag) (mg:Str→Option Value) (KPT SGN MVG BLK CR:Addr):Prop extends TxtP K mg KPT SGN MVG BLK where
 ckR:Cls K CR
 ra:∀ f∈(["groups","procedures","defining","blocks","lists","plans","started"]:List Str),NoAttr K CR f
 g_Reader:mg "Reader"=some (.ref CR)
def rdF (qg qp qd qb ql qpl:Addr) (st:Bool):List (Str × V):=[("groups",.ref qg),("procedures",.ref qp),("defining",.ref qd),("blocks",.ref qb),("lists",.ref ql),("plans",.ref qpl),("started",.bl st)]
section
variable {qg qp qd qb ql qpl q:Addr} {st v:Bool}
theorem l_groups:(rdF qg qp qd qb ql qpl st).lookup ("groups" : Str)=some (.ref qg):=by kernel_rfl
theorem l_procedures:(rdF qg qp qd qb ql qpl st).lookup ("procedures" : Str)=some (.ref qp):=by kernel_rfl
theorem l_defining:(rdF qg qp qd qb ql qpl st).lookup ("defining" : Str)=some (.ref qd):=by kernel_rfl
theorem l_blocks:(rdF qg qp qd qb ql qpl st).lookup ("blocks" : Str)=some (.ref qb):=by kernel_rfl
theorem l_lists:(rdF qg qp qd qb ql qpl st).lookup ("lists" : Str)=some (.ref ql):=by kernel_rfl
theorem l_plans:(rdF qg qp qd qb ql qpl st).lookup ("plans" : Str)=some (.ref qpl):=by kernel_rfl
theorem l_started:(rdF qg qp qd qb ql qpl st).lookup ("started" : Str)=some (.bl st):=by kernel_rfl
theorem p_lists:putF "lists" (.ref q) (rdF qg qp qd qb ql qpl st)=rdF qg qp qd qb q qpl st:=by kernel_rfl
theorem p_plans:putF "plans" (.ref q) (rdF qg qp qd qb ql qpl st)=rdF qg qp qd qb ql q st:=by kernel_rfl
theorem p_defining:putF "defining" (.ref q) (rdF qg qp qd qb ql qpl st)=rdF qg qp q qb ql qpl st:=by kernel_rfl
theorem p_started:putF "started" (.bl v) (rdF qg qp qd qb ql qpl st)=rdF qg qp qd qb ql qpl v:=by kernel_rfl
end
inductive GA (H:Hp):List Addr→List Ps→Prop
 | nil:GA H [] []
 | cons {a:Addr} {as:List Addr} {g:Ps} {gs:List Ps}:H a=some (.tup (g.map V.str))→GA H as gs→GA H (a :: as) (g :: gs)
theorem GA.len {H:Hp}:∀ {as:List Addr} {gs:List Ps},GA H as gs→as.length=gs.length
 | _,_,.nil=>rfl
 | _,_,.cons _ r=>congrArg Nat.succ r.len
theorem GA.ev {TS:List (Addr × Str)} {L:List Addr} {H H':Hp} (e:Ev TS L H H'):∀ {as:List Addr} {gs:List Ps},GA H as gs→GA H' as gs
 | _,_,.nil=>.nil
 | _,_,.cons h r=>.cons (ev_tup e h) (r.ev e)
theorem GA.snoc {H:Hp} {a:Addr} {g:Ps} (h:H a=some (.tup (g.map V.str))):∀ {as:List Addr} {gs:List Ps},GA H as gs→GA H (as++[a]) (gs++[g])
 | _,_,.nil=>.cons h .nil
 | _,_,.cons h' r=>.cons h' (r.snoc h)
theorem flat_le {n:Nat}:∀ {gs:List Ps},(∀ g∈gs,g.length≤3)→gs.length≤n→gs.flatten.length≤3 * n
 | [],_,_=>Nat.zero_le _
 | g :: gs,h,hn=>by
  cases n with
  | zero=>simp at hn
  | succ n =>
   have:=flat_le (n:=n) (fun x hx=>h x (List.mem_cons_of_mem _ hx)) (by simpa using hn)
   have h1:=h g List.mem_cons_self
   rw [List.flatten_cons,List.length_append]
   omega
theorem flat_take {gs:List Ps} {i:Nat} {g:Ps} (h:gs[i]? = some g):(gs.take (i+1)).flatten=(gs.take i).flatten++g:=by
 rw [List.take_add_one,h,List.flatten_append]
 simp
theorem flat_takeLe (gs:List Ps) {i j:Nat} {g:Ps} (h:gs[i]? = some g) (hj:j≤g.length):((gs.take i).flatten++g.take j).length≤gs.flatten.length:=by
 have e:gs.flatten=(gs.take i).flatten++(g++(gs.drop (i+1)).flatten):=by
  obtain ⟨hi,e⟩:=List.getElem?_eq_some_iff.mp h
  rw [← List.flatten_cons,← List.flatten_append,← e,← List.drop_eq_getElem_cons hi,List.take_append_drop]
 rw [e,List.length_append,List.length_append,List.length_append,List.length_take]
 omega
theorem GA.get {H:Hp}:∀ {as:List Addr} {gs:List Ps} {i:Nat} {a:Addr},GA H as gs→as[i]? = some a→∃ g,gs[i]? = some g∧H a=some (.tup (g.map V.str))
 | _,_,_,_,.nil,e=>by simp at e
 | _,_,0,a,.cons h _,e=>by
  obtain rfl:=Option.some.inj e
  exact ⟨_,rfl,h⟩
 | _,_,i+1,a,.cons _ r,e=>by
  obtain ⟨g,h1,h2⟩:=r.get (i:=i) (by simpa using e)
  exact ⟨g,by simpa using h1,h2⟩
def RdAt (K:PySem.W.Frag) (CR:Addr) (H:Hp) (R:Addr) (s:RS) (qg qp qb qpl:Addr):Prop:=∃ dx qd ql as,H R=some (.ins CR dx (rdF qg qp qd qb ql qpl s.st))∧H qg=some (.lst (as.map V.ref))∧GA H as s.gs∧H qp=some (.dK (kD V.int s.prs))∧H qd=some (.tup [.str s.df.1,.int s.df.2]) ∧
 H qb=some (.lst (s.bl.map V.str))∧SqT K H ql (s.ls.map V.str)∧H qpl=some (.dK (kD V.str s.pl))∧qg≠qb∧qp≠qpl
structure RB (s:RS) (n:Nat):Prop where
 gs:s.gs.length≤n
 g3:∀ g∈s.gs,g.length≤3
 prs:s.prs.length≤n
 bl:s.bl.length≤n
 pl:s.pl.length≤n
 ls:s.ls.length≤3 * n
 sb:StrsOk s.bl
def TOk (z:Str):Prop:=z.length≤20000∧PyData.strOk z=true
structure PsOk (ps:Ps):Prop where
 z:∀ z∈ps,TOk z
 l:ps.length≤20000
theorem PsOk.strs {ps:Ps} (h:PsOk ps):StrsOk ps:=fun z hz=>(h.z z hz).2
def spAcc (TS:List (Addr × Str)) (K:PySem.W.Frag) (CR:Addr) (acc:RS→Ps→Option RS):Sp:=fun vs H Q _=>∃ (R p:Addr) (s:RS) (ps:Ps) (qg qp qb qpl:Addr) (n:Nat),vs=[.ref R,.ref p]∧RdAt K CR H R s qg qp qb qpl∧RB s n∧n≤30000∧H p=some (.lst (ps.map V.str))∧PsOk ps∧ps≠[]∧p≠qg∧p≠qb ∧
 (∀ s',acc s ps=some s'→∀ (H':Hp) (qpl':Addr),Ev TS [R,qg,qp,qb,qpl] H H'→RdAt K CR H' R s' qg qp qb qpl'→(qpl'=qpl∨NA H qpl')→Q (.bl true) H')∧(acc s ps=none→∀ H':Hp,Ev TS [R,qg,qp,qb,qpl] H H'→Q (.bl false) H')
def spRdI (TS:List (Addr × Str)) (K:PySem.W.Frag) (CR:Addr):Sp:=fun vs H Q _=>∃ (R dx:Addr),vs=[.ref R]∧H R=some (.ins CR dx []) ∧
 ∀ (H':Hp) (qg qp qb qpl:Addr),Ev TS [R] H H'→RdAt K CR H' R RS.init qg qp qb qpl→NA H qg→NA H qp→NA H qb→NA H qpl→Q .non H'
section
variable {P:Program} {w:World} {K:PySem.W.Frag} {mg:Str→Option Value} {base:Heap} {KPT SGN MVG BLK CR:Addr} {TS:List (Addr × Str)}
theorem sc_rd_else:FnScope ["self","parts"] ["self","parts"] (defScope s_rd_else):=⟨rfl,rfl,rfl,by decide +kernel,rfl,by decide +kernel,by decide +kernel⟩
theorem ok_rd_else {f:Addr} {fd:FuncData} (F:Fun K "accept_else" "Reader.accept_else" s_rd_else f fd) (T:TxtRd K mg KPT SGN MVG BLK CR):FnR P w K mg base CX0 1 f (spAcc TS K CR accElse):=by
 refine fnr F sc_rd_else (fun vs H Q E h=>?_) (fun _ _ _ _ _ _ us hl=>match us,hl with | [_,_],_=>rfl) (fun cdv A outer s H vs Q E hr h=>?_)
 ·obtain ⟨R,p,s,ps,qg,qp,qb,qpl,n,rfl,_⟩:=h
  rfl
 ·obtain ⟨R,p,st,ps,qg,qp,qb,qpl,n,rfl,⟨dx,qd,ql,as,hR,hg,ga,hp,hd,hb,hl,hpl,n1,n2⟩,rb,hn,hps,pok,hne,np1,np2,k1,k2⟩:=h
  refine ⟨_,(pss_cons (ps_if (PW.pt (pw_or (pt_cmpR op_ne (pe_callB call_len_seq (by rfl) T.n_len (by decide +kernel) (pa_cons (pv 1) pa_nil)) pe_int (nomark _)) (pw_or (pt_cmpR (op_eqD hr.units) (pe_fld (pv 0) (by rfl)) (pe_lst pa_nil) (nomark _)) (pw_or1 (pt_cmpR op_ne (pe_ix ix_list (by exact (pe_fld (pv 0) (by rfl))) (by exact (pe_un un_neg pe_int)) (fun _ _=>rfl)) pe_str (nomark _)))))) (pss_one (ps_ret pe_bl)) pss_nil)
   (pss_cons (ps_asg pe_str (pg_sub (pe_fld (pv 0) (by rfl)) (pe_un un_neg pe_int) set_list))
   (pss_one (ps_ret pe_bl)))),?_⟩
  walk_at "rd"
  refine ⟨p,_,rfl,.inl (SqL.of hps),?_⟩
  walk_at "rd"
  refine ite2 (fun c=>?_) (fun c=>?_)
  ·have c1:¬ ps.length=1:=by simp at c; omega
   walk_at "rd"
   exact k2 (by unfold accElse; rw [if_pos (by simp [c1])]) _ (Ev.refl _ _)
  ·have c1:ps.length=1:=by simp at c; omega
   walk_at "rd"
   refine ⟨R,CR,dx,_,_,rfl,hR,T.ckR,T.ra _ (by simp),l_blocks,?_⟩
   walk_at "rd"
   refine ⟨by show 0≤sizeLine; decide,fun e0 he0=>?_⟩
   generalize hX:upd _ e0 _=H1
   obtain ⟨e1,h1⟩:=new_facts (TS:=TS) hX he0
   clear hX
   walk_at "rs"
   refine a_eqSL (ys:=[]) (SqL.of (show H1 qb=_ from (by walk_at "t"))) (SqL.of h1) rb.sb strsOk_nil ?_
   walk_at "rd"
   refine ite2 (fun c=>?_) (fun c=>?_)
   ·have c2:st.bl=[]:=by simpa using c
    walk_at "rd"
    exact k2 (by unfold accElse; rw [if_pos (by simp [c2])]) _ (e1.mono (by simp))
   ·have c2:¬ st.bl=[]:=by simpa using c
    walk_at "rd"
    have hR1:H1 R=some (.ins CR dx (rdF qg qp qd qb ql qpl st.st)):=(by walk_at "t")
    refine ⟨R,CR,dx,_,_,rfl,hR1,T.ckR,T.ra _ (by simp),l_blocks,?_⟩
    walk_at "rd"
    obtain ⟨z,hz⟩ : ∃ z,st.bl.getLast? = some z:=⟨_,List.getLast?_eq_some_getLast c2⟩
    have hlast:atI (st.bl.map V.str) (-1)=some (.str z):=by rw [atI_last (by rw [List.length_map]; exact List.length_pos_iff.mpr c2),List.getLast?_map,hz]; rfl
    have hb1:H1 qb=some (.lst (st.bl.map V.str)):=(by walk_at "t")
    refine ⟨qb,_,_,_,rfl,rfl,SqL.of hb1,hlast,?_⟩
    walk_at "rd"
    refine ite2 (fun c=>?_) (fun c=>?_)
    ·have c3:¬ z=("maybe" : Str):=by simpa using c
     walk_at "rd"
     exact k2 (by unfold accElse; rw [if_pos (by rw [hz]; simp [c3])]) _ (e1.mono (by simp))
    ·have c3:z=("maybe" : Str):=by simpa using c
     walk_at "rd"
     refine ⟨R,CR,dx,_,_,rfl,hR1,T.ckR,T.ra _ (by simp),l_blocks,?_⟩
     walk_at "rd"
     have hix:ixN (st.bl.map V.str).length (-1)=some (st.bl.length - 1):=by
      have:0 < st.bl.length:=List.length_pos_iff.mpr c2
      unfold ixN
      rw [if_neg (by omega),if_pos (by rw [List.length_map]; omega),List.length_map]
      congr 1
      omega
     refine ⟨qb,_,-1,_,rfl,rfl,hb1,hix,?_⟩
     generalize hX:upd _ qb _=H2
     obtain ⟨e2,h2⟩:=set_facts (TS:=TS) hX hb1
     clear hX
     walk_at "rs"
     walk_at "rd"
     refine k1 { st with bl:=st.bl.set (st.bl.length - 1) "else" } (by unfold accElse; rw [if_neg (by rw [hz]; simp [c1,c2,c3])]) H2 qpl (Ev.trans (e1.mono (L1:=[R,qg,qp,qb,qpl]) (by simp)) e2 ⟨.inl (by simp),trivial⟩) ⟨dx,qd,ql,as,(by walk_at "t"),(by walk_at "t"),(ga.ev e1).ev e2,(by walk_at "t"),(by walk_at "t"),?_,(by walk_at "t"),(by walk_at "t"),n1,n2⟩ (.inl rfl)
     rw [h2,List.map_set]
theorem sc_rd_end:FnScope ["self","parts","group","name"] ["self","parts"] (defScope s_rd_end):=⟨rfl,rfl,rfl,by decide +kernel,rfl,by decide +kernel,by decide +kernel⟩
theorem ok_rd_end {f:Addr} {fd:FuncData} (F:Fun K "accept_end" "Reader.accept_end" s_rd_end f fd) (T:TxtRd K mg KPT SGN MVG BLK CR):FnR P w K mg base CX0 1 f (spAcc TS K CR accEnd):=by
 refine fnr F sc_rd_end (fun vs H Q E h=>?_) (fun _ _ _ _ _ _ us hl=>match us,hl with | [_,_],_=>rfl) (fun cdv A outer s H vs Q E hr h=>?_)
 ·obtain ⟨R,p,s,ps,qg,qp,qb,qpl,n,rfl,_⟩:=h
  rfl
 ·obtain ⟨R,p,st,ps,qg,qp,qb,qpl,n,rfl,⟨dx,qd,ql,as,hR,hg,ga,hp,hd,hb,hl,hpl,n1,n2⟩,rb,hn,hps,pok,hne,np1,np2,k1,k2⟩:=h
  refine ⟨_,(pss_cons (ps_if (PW.pt (pw_or (pt_cmpR op_ne (pe_callB call_len_seq (by rfl) T.n_len (by decide +kernel) (pa_cons (pv 1) pa_nil)) pe_int (nomark _)) (pw_or1 (pt_cmpR (op_eqD hr.units) (pe_fld (pv 0) (by rfl)) (pe_lst pa_nil) (nomark _))))) (pss_one (ps_ret pe_bl)) pss_nil)
   (C8.pss_cut (ps_if (pt_cmpR op_eq (pe_bm0 PySem.F.plainAttrs_list PySem.F.slot_list_pop PySem.F.type_list_pop mt_pop (pe_fld (pv 0) (by rfl))) pe_str (nomark _)) (pss_cons (ps_dput (hu_of hr) (pe_fld (pv 0) (by rfl)) (pe_ix ix_tup (by exact (pe_fld (pv 0) (by rfl))) pe_int (fun _ _=>rfl)) (pe_ix ix_tup (by exact (pe_fld (pv 0) (by rfl))) pe_int (fun _ _=>rfl)) rfl)
    (pss_cons (ps_fld (pv 0) (pe_callTy call_tuple_of (by rfl) T.n_tuple (by decide +kernel) (pa_cons (pe_lc2 (own:=[("group",2),("name",3)]) (vs1:=[3]) (by rfl) sc_rd_end.nd (pi_list (pe_fld (pv 0) (by rfl))) (blkOk_by (own:=[("group",2),("name",3)]) (N:=["self","parts","group","name"]) (sc:=defScope s_rd_end) (by first | decide +kernel | kernel_rfl)) (by decide) (fun _ _ _ _ _=>(pg_name (i:=2) sc_rd_end.nd rfl (Or.inl rfl))) (fun _ _ _ _ _=>pts_nil) (fun _ _ _ _ _=>by exact (pi_tupK (K:=K) (by rfl) (pv 2))) (fun _ _ _ _ _=>(pg_name (i:=3) sc_rd_end.nd rfl (Or.inl rfl))) (fun _ _ _ _ _=>pts_nil) (fun _ _ _ _ _=>by exact (pv 3))) pa_nil)) rfl)
    (pss_one (ps_fld (pv 0) pe_dnewK rfl)))) pss_nil)
   (pss_one (ps_ret pe_bl)))),?_⟩
  walk_at "rd"
  refine ⟨p,_,rfl,.inl (SqL.of hps),?_⟩
  walk_at "rd"
  refine ite2 (fun c=>?_) (fun c=>?_)
  ·have c1:¬ ps.length=1:=by simp at c; omega
   walk_at "rd"
   exact k2 (by unfold accEnd; rw [if_pos (by simp [c1])]) _ (Ev.refl _ _)
  ·have c1:ps.length=1:=by simp at c; omega
   walk_at "rd"
   refine ⟨R,CR,dx,_,_,rfl,hR,T.ckR,T.ra _ (by simp),l_blocks,?_⟩
   walk_at "rd"
   refine ⟨by show 0≤sizeLine; decide,fun e0 he0=>?_⟩
   generalize hX:upd _ e0 _=H1
   obtain ⟨e1,h1⟩:=new_facts (TS:=TS) hX he0
   clear hX
   walk_at "rs"
   refine a_eqSL (ys:=[]) (SqL.of (show H1 qb=_ from (by walk_at "t"))) (SqL.of h1) rb.sb strsOk_nil ?_
   walk_at "rd"
   refine ite2 (fun c=>?_) (fun c=>?_)
   ·have c2:st.bl=[]:=by simpa using c
    walk_at "rd"
    exact k2 (by unfold accEnd; rw [if_pos (by simp [c2])]) _ (e1.mono (by simp))
   ·have c2:¬ st.bl=[]:=by simpa using c
    walk_at "rd"
    refine ⟨fun σ' H'=>σ'=[some (.ref R),some (.ref p),none,none]∧∃ s' qpl',accEnd st ps=some s'∧Ev TS [R,qg,qp,qb,qpl] H H'∧RdAt K CR H' R s' qg qp qb qpl'∧(qpl'=qpl∨NA H qpl'),?_,?_⟩
    ·have hR1:H1 R=some (.ins CR dx (rdF qg qp qd qb ql qpl st.st)):=(by walk_at "t")
     walk_at "rd"
     refine ⟨R,CR,dx,_,_,rfl,hR1,T.ckR,T.ra _ (by simp),l_blocks,?_⟩
     walk_at "rd"
     have hb1:H1 qb=some (.lst (st.bl.map V.str)):=(by walk_at "t")
     obtain ⟨z,hz⟩ : ∃ z,st.bl.getLast? = some z:=⟨_,List.getLast?_eq_some_getLast c2⟩
     refine ⟨.inl ⟨rfl,_,SqL.of hb1⟩,?_⟩
     refine ⟨qb,_,.str z,rfl,rfl,hb1,by rw [← List.getLast?_eq_getElem?,List.getLast?_map,hz]; rfl,?_⟩
     generalize hX:upd _ qb _=H2
     obtain ⟨e2,h2⟩:=set_facts (TS:=TS) hX hb1
     clear hX
     walk_at "rs"
     rw [← List.map_dropLast] at h2
     have hR2:H2 R=some (.ins CR dx (rdF qg qp qd qb ql qpl st.st)):=(by walk_at "t")
     have hg2:H2 qg=some (.lst (as.map V.ref)):=(by walk_at "t")
     have ga2:=(ga.ev e1).ev e2
     have hp2:H2 qp=some (.dK (kD V.int st.prs)):=(by walk_at "t")
     have hd2:H2 qd=some (.tup [.str st.df.1,.int st.df.2]):=(by walk_at "t")
     have hl2:SqT K H2 ql (st.ls.map V.str):=(by walk_at "t")
     have hpl2:H2 qpl=some (.dK (kD V.str st.pl)):=(by walk_at "t")
     have E2:Ev TS [R,qg,qp,qb,qpl] H H2:=Ev.trans (e1.mono (L1:=[R,qg,qp,qb,qpl]) (by simp)) e2 ⟨.inl (by simp),trivial⟩
     have le2:Le H H2:=Le.ev e2 (Le.ev e1 (Le.refl _))
     have hp0:=hp
     clear e1 hR hg ga hp hd hb hl hpl hR1 hb1 h1 he0
     walk_at "rd"
     refine ite2 (fun c=>?_) (fun c=>?_)
     ·have c3:z=("define" : Str):=by simpa using c
      walk_at "rd"
      refine ⟨R,CR,dx,_,_,rfl,hR2,T.ckR,T.ra _ (by simp),l_defining,?_⟩
      walk_at "rd"
      refine ⟨qd,_,1,_,rfl,rfl,SqT.of hd2,rfl,?_⟩
      walk_at "rd"
      refine ⟨R,CR,dx,_,_,rfl,hR2,T.ckR,T.ra _ (by simp),l_procedures,?_⟩
      walk_at "rd"
      refine ⟨R,CR,dx,_,_,rfl,hR2,T.ckR,T.ra _ (by simp),l_defining,?_⟩
      walk_at "rd"
      refine ⟨qd,_,0,_,rfl,rfl,SqT.of hd2,rfl,?_⟩
      refine ⟨qp,_,rfl,DPut.k (k:=.inr st.df.1) hp2 (by rw [kD_len]; exact lt_line (by have:=rb.prs; omega)),?_⟩
      generalize hX:upd _ qp _=H3
      obtain ⟨e3,h3⟩:=setD_facts (TS:=TS) hX hp2
      clear hX
      walk_at "rs"
      rw [kD_put] at h3
      walk_at "rd"
      have hR3:H3 R=some (.ins CR dx (rdF qg qp qd qb ql qpl st.st)):=(by walk_at "t")
      refine ⟨R,CR,dx,_,_,rfl,hR3,T.ckR,T.ra _ (by simp),l_groups,?_⟩
      walk_at "rd"
      have hg3:H3 qg=some (.lst (as.map V.ref)):=(by walk_at "t")
      have ga3:=ga2.ev e3
      refine ⟨⟨_,SqL.of hg3⟩,fun D hD=>wk_gen walk_list (fun i H'=>Ev TS [] H3 H'∧H' D=some (.lst ((st.gs.take i).flatten.map V.str))) ⟨Ev.new hD,upd_same⟩ (fun i H' _ hI=>ev_sqL hI.1 (SqL.of hg3) trivial) ?_ ?_⟩
      ·rintro i x H4 H5 hi ⟨e4,hD4⟩ ⟨rfl,hx⟩
       have hi':i < as.length:=by simpa using hi
       rw [List.getElem?_map,List.getElem?_eq_getElem hi'] at hx
       obtain rfl:=Option.some.inj hx
       obtain ⟨g,hg',hta⟩:=ga3.get (List.getElem?_eq_getElem hi')
       have nD:NA H3 D:=.of hD
       walk_at "rd"
       refine ⟨⟨_,SqT.of (ev_tup e4 hta)⟩,wk_gen walk_tup (fun j H'=>Ev TS [] H3 H'∧H' D=some (.lst (((st.gs.take i).flatten++g.take j).map V.str))) ⟨e4,by rw [hD4]; simp⟩ (fun j H' _ hI=>SqT.of (ev_tup hI.1 hta)) ?_ ?_⟩
       ·rintro j y H6 H7 hj ⟨e6,hD6⟩ ⟨rfl,hy⟩
        have hj':j < g.length:=by simpa using hj
        rw [List.getElem?_map,List.getElem?_eq_getElem hj'] at hy
        obtain rfl:=Option.some.inj hy
        walk_at "rd"
        have le:=flat_takeLe st.gs hg' (Nat.le_of_lt hj')
        have le2:=flat_le rb.g3 rb.gs
        refine ⟨_,hD6,by rw [List.length_map]; exact lt_line (by omega),Ev.trans e6 (Ev.setL hD6) ⟨.inr nD,trivial⟩,?_⟩
        have tk:g.take (j+1)=g.take j++[g[j]]:=by
         rw [List.take_add_one,List.getElem?_eq_getElem hj']
         rfl
        rw [upd_same,tk,← List.append_assoc,List.map_append (l₁:=(st.gs.take i).flatten++g.take j)]
        rfl
       ·rintro H6 ⟨e6,hD6⟩
        refine ⟨e6,?_⟩
        rw [hD6,List.length_map,List.take_length,flat_take hg']
      ·rintro H4 ⟨e4,hD4⟩
       rw [List.length_map,ga3.len,List.take_length] at hD4
       walk_at "rd"
       refine ⟨D,_,rfl,.inl ⟨SqL.of hD4,fun qn hqn=>?_⟩⟩
       generalize hX:upd _ qn _=H5
       obtain ⟨e5,h5⟩:=new_facts (TS:=TS) hX hqn
       clear hX
       walk_at "rs"
       walk_at "rd"
       have hR5:H5 R=some (.ins CR dx (rdF qg qp qd qb ql qpl st.st)):=(by walk_at "t")
       refine ⟨R,CR,dx,_,rfl,hR5,T.ckR,T.ra _ (by simp),(by show 7 < 1000; decide),?_⟩
       rw [p_lists]
       generalize hX:upd _ R _=H6
       obtain ⟨e6,h6⟩:=setI_facts (TS:=TS) hX hR5
       clear hX
       walk_at "rs"
       walk_at "rd"
       refine fun qm hqm=>?_
       generalize hX:upd _ qm _=H7
       obtain ⟨e7,h7⟩:=new_facts (TS:=TS) hX hqm
       clear hX
       walk_at "rs"
       walk_at "rd"
       have hR7:H7 R=some (.ins CR dx (rdF qg qp qd qb qn qpl st.st)):=(by walk_at "t")
       refine ⟨R,CR,dx,_,rfl,hR7,T.ckR,T.ra _ (by simp),(by show 7 < 1000; decide),?_⟩
       rw [p_plans]
       generalize hX:upd _ R _=H8
       obtain ⟨e8,h8⟩:=setI_facts (TS:=TS) hX hR7
       clear hX
       walk_at "rs"
       walk_at "rd"
       have nq:NA H qm:=(by walk_at "na")
       have neq:qp≠qm:=fun e=>nq (e ▸ Al.dK (show H qp=_ from hp0))
       refine ⟨{ st with bl:=st.bl.dropLast,prs:=pk st.prs st.df.1 st.df.2,ls:=st.gs.flatten,pl:=[] },qm,?_,?_,⟨dx,qd,qn,as,h8,(by walk_at "t"),?_,(by walk_at "t"),(by walk_at "t"),(by walk_at "t"),(by walk_at "t"),(by walk_at "t"),n1,neq⟩,.inr nq⟩
       ·unfold accEnd
        rw [if_neg (by simp [c1,c2]),hz,if_pos (by rw [c3])]
       ·exact Ev.trans (Ev.trans (Ev.trans (Ev.trans (Ev.trans (Ev.trans E2 e3 ⟨.inl (by simp),trivial⟩) e4 trivial) e5 trivial) e6 ⟨.inl (by simp),trivial⟩) e7 trivial) e8 ⟨.inl (by simp),trivial⟩
       ·exact (((((ga3.ev e4).ev e5).ev e6).ev e7).ev e8)
     ·have c3:¬ z=("define" : Str):=by simpa using c
      walk_at "rd"
      refine ⟨{ st with bl:=st.bl.dropLast },qpl,?_,E2,⟨dx,qd,ql,as,hR2,hg2,ga2,hp2,hd2,h2,hl2,hpl2,n1,n2⟩,.inl rfl⟩
      unfold accEnd
      rw [if_neg (by simp [c1,c2]),hz,if_neg (by simp [c3])]
    ·rintro σ' H' ⟨rfl,s',qpl',ea,e',ra',nn⟩
     walk_at "rd"
     exact k1 s' ea H' qpl' e' ra' nn
end
theorem bnf {b:Bool} (h:(!b)=true):b=false:=by cases b; rfl; cases h
theorem btf {b:Bool} (h:¬ (!b)=true):b=true:=by cases b; exact absurd rfl h; rfl
theorem bff {b:Bool} (h:¬ b=true):b=false:=by cases b; rfl; exact absurd rfl h
theorem TOk.w {z:Str} (h:TOk z):z.length≤100000:=by have:=h.1; omega
theorem PsOk.p0 {ps:Ps} (h:PsOk ps) {j:Nat} (hj:j < ps.length):TOk (p0 ps j):=by
 unfold MV.p0
 rw [List.getD_eq_getElem?_getD,List.getElem?_eq_getElem hj]
 exact h.z _ (List.getElem_mem hj)
theorem PsOk.drop {ps:Ps} (h:PsOk ps) (k:Nat):∀ z∈ps.drop k,z.length≤100000:=fun z hz=>(h.z z (List.mem_of_mem_drop hz)).w
theorem a_catQ {TS:List (Addr × Str)} {K:PySem.W.Frag} {H:Hp} {a b:Addr} {xs ys:List V} {Q:VK} (ha:SqT K H a xs) (hb:SqT K H b ys) (hz:xs.length+ys.length≤sizeLine) (k:∀ q H',Ev TS [] H H'→SqT K H' q (xs++ys)→Q (.ref q) H'):rCatA K (.ref a) (.ref b) H Q:=by
 refine ⟨a,b,xs,ys,rfl,rfl,ha,hb,hz,fun e=>?_,fun e1 e=>?_,fun _ _ p hp=>k p _ (Ev.new hp) (SqT.of upd_same)⟩
 ·exact k b H (Ev.refl _ _) (by rw [e]; exact hb)
 ·exact k a H (Ev.refl _ _) (by rw [e,List.append_nil]; exact ha)
section
variable {P:Program} {w:World} {K:PySem.W.Frag} {mg:Str→Option Value} {base:Heap} {KPT SGN MVG BLK CR:Addr} {TS:List (Addr × Str)}
theorem sc_rd_define:FnScope ["self","parts"] ["self","parts"] (defScope s_rd_define):=⟨rfl,rfl,rfl,by decide +kernel,rfl,by decide +kernel,by decide +kernel⟩
theorem ok_rd_define {f:Addr} {fd:FuncData} (F:Fun K "accept_define" "Reader.accept_define" s_rd_define f fd) (T:TxtRd K mg KPT SGN MVG BLK CR) (Disword:Cl P w K mg base CX0 1 "is_word" (spIsWord TS)) (Darewords:Cl P w K mg base CX0 2 "are_words" (spAreW TS)):FnR P w K mg base CX0 3 f (spAcc TS K CR accDefine):=by
 refine fnr F sc_rd_define (fun vs H Q E h=>?_) (fun _ _ _ _ _ _ us hl=>match us,hl with | [_,_],_=>rfl) (fun cdv A outer s H vs Q E hr h=>?_)
 ·obtain ⟨R,p,s,ps,qg,qp,qb,qpl,n,rfl,_⟩:=h
  rfl
 ·obtain ⟨R,p,st,ps,qg,qp,qb,qpl,n,rfl,⟨dx,qd,ql,as,hR,hg,ga,hp,hd,hb,hl,hpl,n1,n2⟩,rb,hn,hps,pok,hne,np1,np2,k1,k2⟩:=h
  refine ⟨_,(pss_cons (ps_if (PW.pt (pw_or (pt_cmpR (op_neD hr.units) (pe_fld (pv 0) (by rfl)) (pe_lst pa_nil) (nomark _)) (pw_or (pt_val (pe_fld (pv 0) (by rfl))) (pw_or1 (pt_not (pt_chain op_le op_le pe_int (pe_callB call_len_seq (by rfl) T.n_len (by decide +kernel) (pa_cons (pv 1) pa_nil)) pe_int)))))) (pss_one (ps_ret pe_bl)) pss_nil)
   (pss_cons (ps_if (PW.pt (pw_or (pt_not (pt_val (pe_cl Disword hr (by decide) (by rfl) pass0 (pa_cons (pe_ix ix_list (pv 1) pe_int (fun _ _=>rfl)) pa_nil)))) (pw_or (pt_cmp (pc_din (hu_of hr) (pe_ix ix_list (pv 1) pe_int (fun _ _=>rfl)) (pe_fld (pv 0) (by rfl)))) (pw_or1 (pt_not (pt_val (pe_cl Darewords hr (by decide) (by rfl) pass0 (pa_cons (pe_slice sl_list (pv 1) (po_some pe_int) po_none) pa_nil)))))))) (pss_one (ps_ret pe_bl)) pss_nil)
   (pss_cons (ps_expr (pe_bm PySem.F.plainAttrs_list PySem.F.slot_list_append PySem.F.type_list_append mt_append (pe_fld (pv 0) (by rfl)) (pa_cons pe_str pa_nil)))
   (pss_cons (ps_fld (pv 0) (pe_tup (pa_cons (pe_ix ix_list (pv 1) pe_int (fun _ _=>rfl)) (pa_cons (pe_op op_sub (pe_callB call_len_seq (by rfl) T.n_len (by decide +kernel) (pa_cons (pv 1) pa_nil)) pe_int) pa_nil))) rfl)
   (pss_cons (ps_fld (pv 0) (pe_callTy call_tuple_of (by rfl) T.n_tuple (by decide +kernel) (pa_cons (pe_slice sl_list (pv 1) (po_some pe_int) po_none) pa_nil)) rfl)
   (pss_cons (ps_fld (pv 0) pe_dnewK rfl)
   (pss_one (ps_ret pe_bl)))))))),?_⟩
  walk_at "rd"
  refine ⟨R,CR,dx,_,_,rfl,hR,T.ckR,T.ra _ (by simp),l_blocks,?_⟩
  walk_at "rd"
  refine ⟨by show 0≤sizeLine; decide,fun e0 he0=>?_⟩
  generalize hX:upd _ e0 _=H1
  obtain ⟨e1,h1⟩:=new_facts (TS:=TS) hX he0
  clear hX
  walk_at "rs"
  refine a_neSL (ys:=[]) (SqL.of (show H1 qb=_ from (by walk_at "t"))) (SqL.of h1) rb.sb strsOk_nil ?_
  walk_at "rd"
  refine ite2 (fun c=>?_) (fun c=>?_)
  ·have c1:¬ st.bl=[]:=by simpa using c
   walk_at "rd"
   exact k2 (by unfold accDefine; rw [if_pos (by simp [c1])]) _ (e1.mono (by simp))
  ·have c1:st.bl=[]:=by simpa using c
   have hR1:H1 R=some (.ins CR dx (rdF qg qp qd qb ql qpl st.st)):=(by walk_at "t")
   walk_at "rd"
   refine ⟨R,CR,dx,_,_,rfl,hR1,T.ckR,T.ra _ (by simp),l_started,?_⟩
   walk_at "rd"
   cases hst:st.st with
   | true =>
    walk_at "rd"
    exact k2 (by unfold accDefine; rw [if_pos (by simp [hst])]) _ (e1.mono (by simp))
   | false =>
    walk_at "rd"
    have hps1:H1 p=some (.lst (ps.map V.str)):=(by walk_at "t")
    refine ⟨p,_,rfl,.inl (SqL.of hps1),?_⟩
    walk_at "rd"
    have kx:∀ (H':Hp),Ev TS [] H H'→(¬ (3≤ps.length∧ps.length≤5))→Q (.bl false) H':=fun H' e z=>k2 (by unfold accDefine; rw [if_pos (by simp only [Bool.or_eq_true,Bool.not_eq_true',decide_eq_false_iff_not]; exact .inr (.inr z))]) _ (e.mono (by simp))
    refine ite2 (fun c=>?_) (fun c=>?_)
    ·have c2:3≤ps.length:=by simp at c; omega
     walk_at "rd"
     refine ite2 (fun c=>?_) (fun c=>?_)
     ·have c3:¬ ps.length≤5:=by simp at c; omega
      walk_at "rd"
      exact kx _ e1 (fun z=>c3 z.2)
     ·have c3:ps.length≤5:=by simp at c; omega
      have f1:¬ (!decide (st.bl=[]) || (st.st || !decide (3≤ps.length∧ps.length≤5)))=true:=by simp [c1,hst,c2,c3]
      walk_at "rd"
      refine a_ixS 1 hps1 (by omega) ?_
      walk_at "rd"
      refine ⟨(pok.p0 (j:=1) (by omega)).w,fun H2 e2=>?_⟩
      walk_at "rd"
      have ky:(!wordB (p0 ps 1) || ((gk st.prs (p0 ps 1)).isSome || !wordsB (ps.drop 2)))=true→∀ (H':Hp),Ev TS [] H H'→Q (.bl false) H':=fun z H' e=>k2 (by unfold accDefine; rw [if_neg f1,if_pos z]) _ (e.mono (by simp))
      refine ite2 (fun c=>?_) (fun c=>?_)
      ·have c4:wordB (p0 ps 1)=false:=bnf c
       walk_at "rd"
       exact ky (by rw [c4]; rfl) _ (Ev.trans e1 e2 trivial)
      ·have c4:wordB (p0 ps 1)=true:=btf c
       walk_at "rd"
       have hps2:H2 p=some (.lst (ps.map V.str)):=(by walk_at "t")
       refine a_ixS 1 hps2 (by omega) ?_
       walk_at "rd"
       have hR2:H2 R=some (.ins CR dx (rdF qg qp qd qb ql qpl st.st)):=(by walk_at "t")
       refine ⟨R,CR,dx,_,_,rfl,hR2,T.ckR,T.ra _ (by simp),l_procedures,?_⟩
       refine ⟨qp,_,rfl,DGet.k (k:=.inr (p0 ps 1)) (show H2 qp=some (.dK (kD V.int st.prs)) from (by walk_at "t")),?_⟩
       rw [kD_val,Option.isSome_map]
       walk_at "rd"
       refine ite2 (fun c=>?_) (fun c=>?_)
       ·walk_at "rd"
        exact ky (by rw [c4,c]; rfl) _ (Ev.trans e1 e2 trivial)
       ·have c5:(gk st.prs (p0 ps 1)).isSome=false:=bff c
        walk_at "rd"
        dsimp only [tNoPart]
        refine a_slSfrom (TS:=TS) 2 hps2 fun sl H3 hsl e3 h3=>?_
        walk_at "rd"
        refine ⟨sl,ps.drop 2,rfl,h3,pok.drop 2,by rw [List.length_drop]; omega,fun H4 e4=>?_⟩
        walk_at "rd"
        refine ite2 (fun c=>?_) (fun c=>?_)
        ·have c6:wordsB (ps.drop 2)=false:=bnf c
         walk_at "rd"
         exact ky (by rw [c4,c5,c6]; rfl) _ (by walk_at "e")
        ·have c6:wordsB (ps.drop 2)=true:=btf c
         walk_at "rd"
         have hR4:H4 R=some (.ins CR dx (rdF qg qp qd qb ql qpl st.st)):=(by walk_at "t")
         refine ⟨R,CR,dx,_,_,rfl,hR4,T.ckR,T.ra _ (by simp),l_blocks,?_⟩
         have hb4:H4 qb=some (.lst (st.bl.map V.str)):=(by walk_at "t")
         refine ⟨.inl ⟨rfl,_,SqL.of hb4⟩,?_⟩
         walk_at "rd"
         refine a_append (TS:=TS) hb4 (by rw [List.length_map]; exact lt_line (by have:=rb.bl; omega)) fun H5 e5 h5=>?_
         walk_at "rd"
         have hps5:H5 p=some (.lst (ps.map V.str)):=(by walk_at "t")
         refine a_ixS 1 hps5 (by omega) ?_
         walk_at "rd"
         refine ⟨p,_,rfl,.inl (SqL.of hps5),?_⟩
         walk_at "rd"
         refine ⟨by show 2≤sizeLine; decide,fun td htd=>?_⟩
         generalize hX:upd _ td _=H6
         obtain ⟨e6,h6⟩:=new_facts (TS:=TS) hX htd
         clear hX
         walk_at "rs"
         walk_at "rd"
         have hR6:H6 R=some (.ins CR dx (rdF qg qp qd qb ql qpl st.st)):=(by walk_at "t")
         refine ⟨R,CR,dx,_,rfl,hR6,T.ckR,T.ra _ (by simp),(by show 7 < 1000; decide),?_⟩
         rw [p_defining]
         generalize hX:upd _ R _=H7
         obtain ⟨e7,h7⟩:=setI_facts (TS:=TS) hX hR6
         clear hX
         walk_at "rs"
         walk_at "rd"
         have hps7:H7 p=some (.lst (ps.map V.str)):=(by walk_at "t")
         dsimp only [tNoPart]
         refine a_slSfrom (TS:=TS) 2 hps7 fun sm H8 hsm e8 h8=>?_
         walk_at "rd"
         refine ⟨sm,_,rfl,.inl ⟨SqL.of h8,fun qn hqn=>?_⟩⟩
         generalize hX:upd _ qn _=H9
         obtain ⟨e9,h9⟩:=new_facts (TS:=TS) hX hqn
         clear hX
         walk_at "rs"
         walk_at "rd"
         have hR9:H9 R=some (.ins CR dx (rdF qg qp td qb ql qpl st.st)):=(by walk_at "t")
         refine ⟨R,CR,dx,_,rfl,hR9,T.ckR,T.ra _ (by simp),(by show 7 < 1000; decide),?_⟩
         rw [p_lists]
         generalize hX:upd _ R _=H10
         obtain ⟨e10,h10⟩:=setI_facts (TS:=TS) hX hR9
         clear hX
         walk_at "rs"
         walk_at "rd"
         refine fun qm hqm=>?_
         generalize hX:upd _ qm _=H11
         obtain ⟨e11,h11⟩:=new_facts (TS:=TS) hX hqm
         clear hX
         walk_at "rs"
         walk_at "rd"
         have hR11:H11 R=some (.ins CR dx (rdF qg qp td qb qn qpl st.st)):=(by walk_at "t")
         refine ⟨R,CR,dx,_,rfl,hR11,T.ckR,T.ra _ (by simp),(by show 7 < 1000; decide),?_⟩
         rw [p_plans]
         generalize hX:upd _ R _=H12
         obtain ⟨e12,h12⟩:=setI_facts (TS:=TS) hX hR11
         clear hX
         walk_at "rs"
         walk_at "rd"
         have nq:NA H qm:=(by walk_at "na")
         have neq:qp≠qm:=fun e=>nq (e ▸ Al.dK hp)
         refine k1 { st with bl:=st.bl++[("define" : Str)],df:=(p0 ps 1,((ps.length:Int) - 2)),ls:=ps.drop 2,pl:=[] } (by unfold accDefine; rw [if_neg f1,if_neg (by rw [c4,c5,c6]; exact Bool.false_ne_true)]) H12 qm ?_ ⟨dx,td,qn,as,h12,(by walk_at "t"),?_,(by walk_at "t"),?_,?_,(by walk_at "t"),(by walk_at "t"),n1,neq⟩ (.inr nq)
         ·have E5:=Ev.trans (Ev.trans (Ev.trans (Ev.trans (e1.mono (L1:=[R,qg,qp,qb,qpl]) (by simp)) e2 trivial) e3 trivial) e4 trivial) e5 ⟨.inl (by simp),trivial⟩
          exact Ev.trans (Ev.trans (Ev.trans (Ev.trans (Ev.trans (Ev.trans (Ev.trans E5 e6 trivial) e7 ⟨.inl (by simp),trivial⟩) e8 trivial) e9 trivial) e10 ⟨.inl (by simp),trivial⟩) e11 trivial) e12 ⟨.inl (by simp),trivial⟩
         ·exact (((((((((((ga.ev e1).ev e2).ev e3).ev e4).ev e5).ev e6).ev e7).ev e8).ev e9).ev e10).ev e11).ev e12
         ·have q:H6 td=some (.tup [.str (p0 ps 1),.int ((ps.map V.str).length - 2)]):=h6
          rw [List.length_map] at q
          exact (by walk_at "t")
         ·have q:H5 qb=some (.lst ((st.bl++[("define" : Str)]).map V.str)):=by rw [h5,List.map_append]; rfl
          exact (by walk_at "t")
    ·have c2:¬ 3≤ps.length:=by simp at c; omega
     walk_at "rd"
     exact kx _ e1 (fun z=>c2 z.1)
theorem sc_rd_lists:FnScope ["self","parts","names","group","name"] ["self","parts"] (defScope s_rd_lists):=⟨rfl,rfl,rfl,by decide +kernel,rfl,by decide +kernel,by decide +kernel⟩
theorem ok_rd_lists {f:Addr} {fd:FuncData} (F:Fun K "accept_lists" "Reader.accept_lists" s_rd_lists f fd) (T:TxtRd K mg KPT SGN MVG BLK CR) (Darewords:Cl P w K mg base CX0 2 "are_words" (spAreW TS)):FnR P w K mg base CX0 3 f (spAcc TS K CR accLists):=by
 refine fnr F sc_rd_lists (fun vs H Q E h=>?_) (fun _ _ _ _ _ _ us hl=>match us,hl with | [_,_],_=>rfl) (fun cdv A outer s H vs Q E hr h=>?_)
 ·obtain ⟨R,p,s,ps,qg,qp,qb,qpl,n,rfl,_⟩:=h
  rfl
 ·obtain ⟨R,p,st,ps,qg,qp,qb,qpl,n,rfl,⟨dx,qd,ql,as,hR,hg,ga,hp,hd,hb,hl,hpl,n1,n2⟩,rb,hn,hps,pok,hne,np1,np2,k1,k2⟩:=h
  refine ⟨_,(pss_cons (ps_set (i:=2) sc_rd_lists.nd rfl (Or.inl rfl) (pe_slice sl_list (pv 1) (po_some pe_int) po_none))
   (pss_cons (ps_if (PW.pt (pw_or (pt_cmpR op_ne (pe_ix ix_list (pv 1) pe_int (fun _ _=>rfl)) pe_str (nomark _)) (pw_or (pt_not (pt_chain op_le op_le pe_int (pe_callB call_len_seq (by rfl) T.n_len (by decide +kernel) (pa_cons (pv 2) pa_nil)) pe_int)) (pw_or1 (pt_not (pt_val (pe_cl Darewords hr (by decide) (by rfl) pass0 (pa_cons (pv 2) pa_nil)))))))) (pss_one (ps_ret pe_bl)) pss_nil)
   (pss_cons (ps_for PassesOwn.never rfl (pi_list (pe_fld (pv 0) (by rfl))) (pg_name (i:=3) sc_rd_lists.nd rfl (Or.inr rfl))
    (pss_one (ps_if (PW.pt (pw_or (pt_cmpR op_ne (pe_callB call_len_seq (by rfl) T.n_len (by decide +kernel) (pa_cons (pv 3) pa_nil)) (pe_callB call_len_seq (by rfl) T.n_len (by decide +kernel) (pa_cons (pv 2) pa_nil)) (nomark _)) (pw_or1 (pt_val (pe_callB (cr_any rfl) (by rfl) T.n_any (by decide +kernel) (pa_cons (pe_lc (own:=[("name",4)]) (by rfl) sc_rd_lists.nd (pi_list (pv 2)) (blkOk_by (own:=[("name",4)]) (N:=["self","parts","names","group","name"]) (sc:=defScope s_rd_lists) (by first | decide +kernel | kernel_rfl)) (fun _ _ _ _ _=>(pg_name (i:=4) sc_rd_lists.nd rfl (Or.inl rfl))) (fun _ _ _ _ _=>by exact pts_nil) (fun _ _ _ _ _=>by exact (pe_cmpR (op_in_seqK (K:=K) (by rfl)) (pv 4) (pv 3) (by rfl)))) pa_nil)))))) (pss_one (ps_ret pe_bl)) pss_nil)))
   (pss_cons (ps_expr (pe_bm PySem.F.plainAttrs_list PySem.F.slot_list_append PySem.F.type_list_append mt_append (pe_fld (pv 0) (by rfl)) (pa_cons (pe_callTy call_tuple_of (by rfl) T.n_tuple (by decide +kernel) (pa_cons (pv 2) pa_nil)) pa_nil)))
   (pss_cons (ps_fld (pv 0) (pe_op op_catA (pe_fld (pv 0) (by rfl)) (pe_callTy call_tuple_of (by rfl) T.n_tuple (by decide +kernel) (pa_cons (pv 2) pa_nil))) rfl)
   (pss_one (ps_ret pe_bl))))))),?_⟩
  walk_at "rd"
  dsimp only [tNoPart]
  refine a_slSfrom (TS:=TS) 1 hps fun nm H1 hnm e1 h1=>?_
  walk_at "rd"
  have hps1:H1 p=some (.lst (ps.map V.str)):=(by walk_at "t")
  refine a_ixS 0 hps1 (List.length_pos_iff.mpr hne) ?_
  walk_at "rd"
  have kx:(!decide (p0 ps 0 = "lists") || (!decide (1≤(ps.drop 1).length∧(ps.drop 1).length≤3) || !wordsB (ps.drop 1)))=true→∀ (H':Hp),Ev TS [] H H'→Q (.bl false) H':=fun z H' e=>k2 (by unfold accLists; rw [if_pos z]) _ (e.mono (by simp))
  refine ite2 (fun c=>?_) (fun c=>?_)
  ·have c1:decide (p0 ps 0 = "lists")=false:=by rw [dec_str] at c; exact bnf c
   walk_at "rd"
   exact kx (by rw [c1]; rfl) _ e1
  ·have c1:decide (p0 ps 0 = "lists")=true:=by rw [dec_str] at c; exact btf c
   walk_at "rd"
   refine ⟨nm,_,rfl,.inl (SqL.of h1),?_⟩
   walk_at "rd"
   refine ite2 (fun c=>?_) (fun c=>?_)
   ·have c2:1≤(ps.drop 1).length:=by rw [List.length_map] at c; have:=of_decide_eq_true c; omega
    walk_at "rd"
    refine ite2 (fun c=>?_) (fun c=>?_)
    ·have c3:¬ (ps.drop 1).length≤3:=by rw [List.length_map] at c; have:=of_decide_eq_false (bnf c); omega
     walk_at "rd"
     exact kx (by rw [show decide (1≤(ps.drop 1).length∧(ps.drop 1).length≤3)=false from decide_eq_false fun z=>c3 z.2,c1]; rfl) _ e1
    ·have c3:(ps.drop 1).length≤3:=by rw [List.length_map] at c; have:=of_decide_eq_true (btf c); omega
     have c23:decide (1≤(ps.drop 1).length∧(ps.drop 1).length≤3)=true:=decide_eq_true ⟨c2,c3⟩
     walk_at "rd"
     refine ⟨nm,ps.drop 1,rfl,h1,pok.drop 1,by omega,fun H2 e2=>?_⟩
     walk_at "rd"
     refine ite2 (fun c=>?_) (fun c=>?_)
     ·have c4:wordsB (ps.drop 1)=false:=bnf c
      walk_at "rd"
      exact kx (by rw [c1,c23,c4]; rfl) _ (Ev.trans e1 e2 trivial)
     ·have c4:wordsB (ps.drop 1)=true:=btf c
      have f1:¬ (!decide (p0 ps 0 = "lists") || (!decide (1≤(ps.drop 1).length∧(ps.drop 1).length≤3) || !wordsB (ps.drop 1)))=true:=by rw [c1,c23,c4]; exact Bool.false_ne_true
      walk_at "rd"
      have hR2:H2 R=some (.ins CR dx (rdF qg qp qd qb ql qpl st.st)):=(by walk_at "t")
      have hg2:H2 qg=some (.lst (as.map V.ref)):=(by walk_at "t")
      have ga2:=(ga.ev e1).ev e2
      have hn2:H2 nm=some (.lst ((ps.drop 1).map V.str)):=(by walk_at "t")
      refine ⟨R,CR,dx,_,_,rfl,hR2,T.ckR,T.ra _ (by simp),l_groups,?_⟩
      walk_at "rd"
      refine ⟨⟨_,SqL.of hg2⟩,for_it (walk_list (xs:=as.map V.ref)) (fun i σ H'=>∃ v1 v2:Option V,σ=[some (.ref R),some (.ref p),some (.ref nm),v1,v2]∧Ev TS [] H2 H'∧∀ (j:Nat) (g:Ps),j < i→st.gs[j]? = some g→clash (ps.drop 1) g=false) ⟨none,none,rfl,Ev.refl _ _,fun j g hj=>by omega⟩ (fun i σ H' _ hI=>?_) ?_ ?_⟩
      ·obtain ⟨v1,v2,rfl,e3,_⟩:=hI
       exact ev_sqL e3 (SqL.of hg2) trivial
      ·rintro i x σ H3 H4 hi ⟨v1,v2,rfl,e3,hall⟩ ⟨rfl,hx⟩
       have hi':i < as.length:=by simpa using hi
       rw [List.getElem?_map,List.getElem?_eq_getElem hi'] at hx
       obtain rfl:=Option.some.inj hx
       obtain ⟨g,hg',hta⟩:=ga2.get (List.getElem?_eq_getElem hi')
       have hta3:=ev_tup e3 hta
       have hn3:H4 nm=some (.lst ((ps.drop 1).map V.str)):=(by walk_at "t")
       walk_at "rd"
       refine ⟨_,_,rfl,.inr (SqT.of hta3),?_⟩
       walk_at "rd"
       refine ⟨nm,_,rfl,.inl (SqL.of hn3),?_⟩
       walk_at "rd"
       have kz:∀ (H':Hp),Ev TS [] H4 H'→clash (ps.drop 1) g=true→Q (.bl false) H':=fun H' e z=>k2 (by
        unfold accLists
        rw [if_neg f1,if_pos (List.any_eq_true.mpr ⟨g,List.mem_of_getElem? hg',z⟩)]) _ ((Ev.trans (Ev.trans (Ev.trans e1 e2 trivial) e3 trivial) e trivial).mono (by simp))
       refine ite2 (fun c=>?_) (fun c=>?_)
       ·have c5:¬ g.length=(ps.drop 1).length:=by
         rw [List.length_map,List.length_map] at c
         have:=of_decide_eq_false (bnf c)
         intro z
         rw [z] at this
         exact this rfl
        walk_at "rd"
        exact kz _ (Ev.refl _ _) (by unfold clash; rw [decide_eq_false c5]; rfl)
       ·have c5:g.length=(ps.drop 1).length:=by
         rw [List.length_map,List.length_map] at c
         have:=of_decide_eq_true (btf c)
         injection this with this
         omega
        walk_at "rd"
        refine ⟨⟨_,SqL.of hn3⟩,fun D hD=>lc_ev (TS:=TS) (walk_list (xs:=(ps.drop 1).map V.str)) hD (fun k acc H'=>Ev TS [] H4 H'∧acc=(((ps.drop 1).take k).map fun n=>decide (n∈g)).map V.bl) (fun H5 e5 h5=>⟨e5,by simp⟩) (fun k acc H' _ hI _=>ev_sqL hI.1 (SqL.of hn3) trivial) ?_ ?_⟩
        ·rintro k x acc Hz H5 hk ⟨e5,rfl⟩ hD5 ⟨rfl,hx⟩
         have hk':k < (ps.drop 1).length:=by simpa using hk
         rw [List.getElem?_map,List.getElem?_eq_getElem hk'] at hx
         obtain rfl:=Option.some.inj hx
         walk_at "rd"
         refine ⟨_,_,rfl,.inr (SqT.of (ev_tup e5 hta3)),rfl,flat_strs _,?_⟩
         rw [if_neg (by decide),inV_strs]
         walk_at "rd"
         refine lc_put (TS:=TS) hD5 (by rw [List.length_map,List.length_map,List.length_take]; exact lt_line (by omega)) fun H6 e6 h6=>?_
         have nD:NA H4 D:=.of hD
         refine ⟨Ev.trans e5 e6 ⟨.inr nD,trivial⟩,?_⟩
         have tk:(ps.drop 1).take (k+1)=(ps.drop 1).take k++[(ps.drop 1)[k]]:=by
          rw [List.take_add_one,List.getElem?_eq_getElem hk']
          rfl
         rw [tk,List.map_append,List.map_append]
         rfl
        ·rintro acc H5 ⟨e5,rfl⟩ hD5
         rw [List.length_map,List.take_length] at hD5
         walk_at "rd"
         refine ⟨D,_,rfl,SqL.of hD5,?_⟩
         have ea:(((ps.drop 1).map fun n=>decide (n∈g)).any id)=(ps.drop 1).any fun n=>decide (n∈g):=by rw [List.any_map]; rfl
         rw [ea]
         walk_at "rd"
         refine ite2 (fun c=>?_) (fun c=>?_)
         ·walk_at "rd"
          exact kz _ e5 (by unfold clash; rw [c,Bool.or_true])
         ·walk_at "rd"
          refine ⟨Ev.trans e3 e5 trivial,fun j g' hj hg''=>?_⟩
          by_cases hji:j=i
          ·subst hji
           rw [hg'] at hg''
           obtain rfl:=Option.some.inj hg''
           unfold clash
           rw [decide_eq_true c5,bff c]
           rfl
          ·exact hall j g' (by omega) hg''
      ·rintro σ H3 ⟨v1,v2,rfl,e3,hall⟩
       rw [List.length_map,ga2.len] at hall
       have f2:¬ st.gs.any (clash (ps.drop 1))=true:=fun z=>by
        obtain ⟨g,hg',hc⟩:=List.any_eq_true.mp z
        obtain ⟨j,hj,e⟩:=List.getElem_of_mem hg'
        rw [hall j g hj (by rw [List.getElem?_eq_getElem hj,e])] at hc
        cases hc
       have hR3:H3 R=some (.ins CR dx (rdF qg qp qd qb ql qpl st.st)):=(by walk_at "t")
       have hg3:H3 qg=some (.lst (as.map V.ref)):=(by walk_at "t")
       have ga3:=ga2.ev e3
       have hn3:H3 nm=some (.lst ((ps.drop 1).map V.str)):=(by walk_at "t")
       have hb3:H3 qb=some (.lst (st.bl.map V.str)):=(by walk_at "t")
       have hd3:H3 qd=some (.tup [.str st.df.1,.int st.df.2]):=(by walk_at "t")
       have hp3:H3 qp=some (.dK (kD V.int st.prs)):=(by walk_at "t")
       have hl3:SqT K H3 ql (st.ls.map V.str):=(by walk_at "t")
       have hpl3:H3 qpl=some (.dK (kD V.str st.pl)):=(by walk_at "t")
       have E3:Ev TS [] H H3:=Ev.trans (Ev.trans e1 e2 trivial) e3 trivial
       walk_at "rd"
       refine ⟨R,CR,dx,_,_,rfl,hR3,T.ckR,T.ra _ (by simp),l_groups,?_⟩
       refine ⟨.inl ⟨rfl,_,SqL.of hg3⟩,?_⟩
       walk_at "rd"
       refine ⟨nm,_,rfl,.inl ⟨SqL.of hn3,fun tn htn=>?_⟩⟩
       generalize hX:upd _ tn _=H4
       obtain ⟨e4,h4⟩:=new_facts (TS:=TS) hX htn
       clear hX
       walk_at "rs"
       walk_at "rd"
       have hg4:H4 qg=some (.lst (as.map V.ref)):=(by walk_at "t")
       refine a_append (TS:=TS) hg4 (by rw [List.length_map,ga3.len]; exact lt_line (by have:=rb.gs; omega)) fun H5 e5 h5=>?_
       walk_at "rd"
       have hR5:H5 R=some (.ins CR dx (rdF qg qp qd qb ql qpl st.st)):=(by walk_at "t")
       refine ⟨R,CR,dx,_,_,rfl,hR5,T.ckR,T.ra _ (by simp),l_lists,?_⟩
       walk_at "rd"
       have hn5:H5 nm=some (.lst ((ps.drop 1).map V.str)):=(by walk_at "t")
       refine ⟨nm,_,rfl,.inl ⟨SqL.of hn5,fun tm htm=>?_⟩⟩
       generalize hX:upd _ tm _=H6
       obtain ⟨e6,h6⟩:=new_facts (TS:=TS) hX htm
       clear hX
       walk_at "rs"
       walk_at "rd"
       have hl6:SqT K H6 ql (st.ls.map V.str):=(by walk_at "t")
       have hR6:H6 R=some (.ins CR dx (rdF qg qp qd qb ql qpl st.st)):=(by walk_at "t")
       have lel:=rb.ls
       refine a_catQ (TS:=TS) hl6 (SqT.of h6) (by rw [List.length_map,List.length_map]; exact le_line (by omega)) fun qn H7 e7 hq7=>?_
       rw [← List.map_append] at hq7
       walk_at "rd"
       have hR7:H7 R=some (.ins CR dx (rdF qg qp qd qb ql qpl st.st)):=(by walk_at "t")
       refine ⟨R,CR,dx,_,rfl,hR7,T.ckR,T.ra _ (by simp),(by show 7 < 1000; decide),?_⟩
       rw [p_lists]
       generalize hX:upd _ R _=H8
       obtain ⟨e8,h8⟩:=setI_facts (TS:=TS) hX hR7
       clear hX
       walk_at "rs"
       walk_at "rd"
       have hg5:H5 qg=some (.lst ((as++[tn]).map V.ref)):=by rw [h5,List.map_append]; rfl
       have ht8:H8 tn=some (.tup ((ps.drop 1).map V.str)):=(by walk_at "t")
       refine k1 { st with gs:=st.gs++[ps.drop 1],ls:=st.ls++ps.drop 1 } (by unfold accLists; rw [if_neg f1,if_neg f2]) H8 qpl ?_ ⟨dx,qd,qn,as++[tn],h8,(by walk_at "t"),GA.snoc ht8 (((((ga3.ev e4).ev e5).ev e6).ev e7).ev e8),(by walk_at "t"),(by walk_at "t"),(by walk_at "t"),(by walk_at "t"),(by walk_at "t"),n1,n2⟩ (.inl rfl)
       exact Ev.trans (Ev.trans (Ev.trans (Ev.trans (Ev.trans (E3.mono (L1:=[R,qg,qp,qb,qpl]) (by simp)) e4 trivial) e5 ⟨.inl (by simp),trivial⟩) e6 trivial) e7 trivial) e8 ⟨.inl (by simp),trivial⟩
   ·have c2:¬ 1≤(ps.drop 1).length:=by rw [List.length_map] at c; intro z; exact c (decide_eq_true (by omega))
    walk_at "rd"
    exact kx (by rw [show decide (1≤(ps.drop 1).length∧(ps.drop 1).length≤3)=false from decide_eq_false fun z=>c2 z.1,c1]; rfl) _ e1
end
inductive LA (K:PySem.W.Frag) (H:Hp):List Addr→List Ps→Prop
 | nil:LA K H [] []
 | cons {a:Addr} {as:List Addr} {g:Ps} {gs:List Ps}:SqL K H a (g.map V.str)→LA K H as gs→LA K H (a :: as) (g :: gs)
theorem getD_map {α:Type} (f:α→V) (o:Option α) (d:α):(o.map f).getD (f d)=f (o.getD d):=by cases o <;> rfl
theorem LA.dp {K:PySem.W.Frag} {H:Hp}:∀ {as:List Addr} {gs:List Ps},LA K H as gs→DpAll K H (as.map V.ref) (gs.map fun g=>.list (g.map PyData.str))
 | _,_,.nil=>.nil
 | _,_,.cons h r=>.cons (dp_strs h) r.dp
theorem a_inLs {K:PySem.W.Frag} {H:Hp} {x q:Addr} {r:Ps} {as:List Addr} {gs:List Ps} {Q:VK} (hx:SqL K H x (r.map V.str)) (hr:StrsOk r) (hq:SqT K H q (as.map V.ref)) (la:LA K H as gs) (ok:∀ g∈gs,StrsOk g) (k:Q (.bl (gs.any fun g=>decide (r=g))) H):rInT K (.ref x) (.ref q) H Q:=by
 refine ⟨.list (r.map PyData.str),gs.map fun g=>.list (g.map PyData.str),dp_strs hx,.tup hq la.dp,shaped_list (sh_strs hr),shaped_tuple fun d hd=>?_,?_⟩
 ·obtain ⟨g,hg,rfl⟩:=List.mem_map.mp hd
  exact sh_strsL (ok g hg)
 ·rw [List.any_map]
  have:(gs.any ((fun z=>PyData.eqv z (.list (r.map PyData.str))) ∘ fun g=>.list (g.map PyData.str)))=gs.any fun g=>decide (r=g):=by
   congr 1
   funext g
   show PyData.eqv (.list (g.map PyData.str)) (.list (r.map PyData.str))=_
   rw [eqv_list,eqvAll_strs]
   exact decide_eq_decide.mpr ⟨Eq.symm,Eq.symm⟩
  rw [this]
  exact k
section
variable {P:Program} {w:World} {K:PySem.W.Frag} {mg:Str→Option Value} {base:Heap} {KPT SGN MVG BLK CR:Addr} {TS:List (Addr × Str)}
theorem sc_rd_take:FnScope ["self","parts","word","rest","is_right","sort"] ["self","parts"] (defScope s_rd_take):=⟨rfl,rfl,rfl,by decide +kernel,rfl,by decide +kernel,by decide +kernel⟩
theorem ok_rd_take {f:Addr} {fd:FuncData} (F:Fun K "accept_take" "Reader.accept_take" s_rd_take f fd) (T:TxtRd K mg KPT SGN MVG BLK CR) (Disword:Cl P w K mg base CX0 1 "is_word" (spIsWord TS)) (Distest:Cl P w K mg base CX0 2 "is_test" (spIsTest TS)):FnR P w K mg base CX0 3 f (spAcc TS K CR accTake):=by
 refine fnr F sc_rd_take (fun vs H Q E h=>?_) (fun _ _ _ _ _ _ us hl=>match us,hl with | [_,_],_=>rfl) (fun cdv A outer s H vs Q E hr h=>?_)
 ·obtain ⟨R,p,s,ps,qg,qp,qb,qpl,n,rfl,_⟩:=h
  rfl
 ·obtain ⟨R,p,st,ps,qg,qp,qb,qpl,n,rfl,⟨dx,qd,ql,as,hR,hg,ga,hp,hd,hb,hl,hpl,n1,n2⟩,rb,hn,hps,pok,hne,np1,np2,k1,k2⟩:=h
  refine ⟨_,(pss_cons (ps_if (PW.pt (pw_or (pt_cmpR op_lt (pe_callB call_len_seq (by rfl) T.n_len (by decide +kernel) (pa_cons (pv 1) pa_nil)) pe_int (nomark _)) (pw_or (pt_not (pt_val (pe_cl Disword hr (by decide) (by rfl) pass0 (pa_cons (pe_ix ix_list (pv 1) pe_int (fun _ _=>rfl)) pa_nil)))) (pw_or1 (pt_cmpR op_notIn_seq (pe_ix ix_list (pv 1) pe_int (fun _ _=>rfl)) (pe_fld (pv 0) (by rfl)) rfl))))) (pss_one (ps_ret pe_bl)) pss_nil)
   (pss_cons (ps_par (i:=2) (j:=3) (by rfl) sc_rd_take.nd rfl rfl (by decide) rfl rfl (pa_cons (pe_ix ix_list (pv 1) pe_int (fun _ _=>rfl)) (pa_cons (pe_slice sl_list (pv 1) (po_some pe_int) po_none) pa_nil)) (by rfl))
   (C8.pss_cut (ps_if (pt_cmpR op_eq (pv 2) pe_str (nomark _)) (pss_one (ps_set (i:=4) sc_rd_take.nd rfl (Or.inl rfl) (pe_cmpR (op_inT (un66 hr)) (pv 3) (pe_tup (pa_cons (pe_lst pa_nil) (pa_cons (pe_lst (pa_cons pe_str pa_nil)) pa_nil))) rfl))) (pss_one (ps_if (pt_cmpR op_eq (pv 2) pe_str (nomark _)) (pss_one (ps_set (i:=4) sc_rd_take.nd rfl (Or.inl rfl) (pe_cl Distest hr (by decide) (by rfl) pass0 (pa_cons (pv 3) pa_nil)))) (pss_one (ps_if (pt_cmpR op_eq (pv 2) pe_str (nomark _)) (pss_one (ps_set (i:=4) sc_rd_take.nd rfl (Or.inl rfl) (pe_cmpR (op_eqD hr.units) (pv 3) (pe_lst pa_nil) (nomark _)))) (pss_one (ps_if (pt_cmpR op_eq (pv 2) pe_str (nomark _)) (pss_one (ps_set (i:=4) sc_rd_take.nd rfl (Or.inl rfl) (pe_cmpR (op_inT (un66 hr)) (pv 3) (pe_tup (pa_cons (pe_lst (pa_cons pe_str pa_nil)) (pa_cons (pe_lst (pa_cons pe_str pa_nil)) (pa_cons (pe_lst (pa_cons pe_str pa_nil)) pa_nil)))) rfl))) (pss_one (ps_set (i:=4) sc_rd_take.nd rfl (Or.inl rfl) (pe_and (pe_cmpR op_eq (pv 2) pe_str (nomark _)) (pe_one (pe_or (pe_cmpR (op_eqD hr.units) (pv 3) (pe_lst pa_nil) (nomark _)) (pe_one (pe_cl Distest hr (by decide) (by rfl) pass0 (pa_cons (pv 3) pa_nil)))))))))))))))
   (C8.pss_cut (ps_set (i:=5) sc_rd_take.nd rfl (Or.inl rfl) (pe_ifExp (pt_cmpR op_eq (pv 2) pe_str (nomark _)) pe_str pe_str))
   (pss_cons (ps_if (PW.pt (pw_or (pt_not (pt_val (pv 4))) (pw_or1 (pt_cmpR op_ne (pe_dget2 (hu_of hr) (pe_fld (pv 0) (by rfl)) (pe_ix ix_list (pv 1) pe_int (fun _ _=>rfl)) (pv 5) ⟨rfl,rfl,rfl,rfl⟩) (pv 5) (nomark _))))) (pss_one (ps_ret pe_bl)) pss_nil)
   (pss_cons (ps_dput (hu_of hr) (pe_fld (pv 0) (by rfl)) (pe_ix ix_list (pv 1) pe_int (fun _ _=>rfl)) (pv 5) rfl)
   (pss_one (ps_ret pe_bl)))))))),?_⟩
  walk_at "rd"
  refine ⟨p,_,rfl,.inl (SqL.of hps),?_⟩
  walk_at "rd"
  rw [List.length_map]
  have kx:(decide (ps.length < 4) || (!wordB (p0 ps 1) || !decide (p0 ps 3∈st.ls)))=true→∀ (H':Hp),Ev TS [] H H'→Q (.bl false) H':=fun z H' e=>k2 (by unfold accTake; rw [if_pos z]) _ (e.mono (by simp))
  refine ite2 (fun c=>?_) (fun c=>?_)
  ·have c1:ps.length < 4:=by have:=of_decide_eq_true c; omega
   walk_at "rd"
   exact kx (by rw [decide_eq_true c1]; rfl) _ (Ev.refl _ _)
  ·have c1:¬ ps.length < 4:=fun z=>c (decide_eq_true (by omega))
   walk_at "rd"
   refine a_ixS 1 hps (by omega) ?_
   walk_at "rd"
   refine ⟨(pok.p0 (j:=1) (by omega)).w,fun H1 e1=>?_⟩
   walk_at "rd"
   refine ite2 (fun c=>?_) (fun c=>?_)
   ·have c2:wordB (p0 ps 1)=false:=bnf c
    walk_at "rd"
    exact kx (by rw [c2]; simp) _ e1
   ·have c2:wordB (p0 ps 1)=true:=btf c
    have hps1:H1 p=some (.lst (ps.map V.str)):=(by walk_at "t")
    have hR1:H1 R=some (.ins CR dx (rdF qg qp qd qb ql qpl st.st)):=(by walk_at "t")
    have hl1:SqT K H1 ql (st.ls.map V.str):=(by walk_at "t")
    walk_at "rd"
    refine a_ixS 3 hps1 (by omega) ?_
    walk_at "rd"
    refine ⟨R,CR,dx,_,_,rfl,hR1,T.ckR,T.ra _ (by simp),l_lists,?_⟩
    refine ⟨ql,_,rfl,.inr hl1,rfl,flat_strs _,?_⟩
    rw [if_pos rfl,inV_strs]
    walk_at "rd"
    refine ite2 (fun c=>?_) (fun c=>?_)
    ·have c3:decide (p0 ps 3∈st.ls)=false:=bnf c
     walk_at "rd"
     exact kx (by rw [c2,c3]; simp) _ e1
    ·have c3:decide (p0 ps 3∈st.ls)=true:=btf c
     have f1:¬ (decide (ps.length < 4) || (!wordB (p0 ps 1) || !decide (p0 ps 3∈st.ls)))=true:=by rw [c2,c3,decide_eq_false c1]; exact Bool.false_ne_true
     walk_at "rd"
     refine a_ixS 2 hps1 (by omega) ?_
     walk_at "rd"
     dsimp only [tNoPart]
     refine a_slSfrom (TS:=TS) 4 hps1 fun rs H2 hrs e2 h2=>?_
     walk_at "rd"
     have E2:Ev TS [] H H2:=Ev.trans e1 e2 trivial
     have hR2:H2 R=some (.ins CR dx (rdF qg qp qd qb ql qpl st.st)):=ev_ins e2 hR1 trivial
     have hps2:H2 p=some (.lst (ps.map V.str)):=ev_lst e2 hps1 trivial
     have hpl2:H2 qpl=some (.dK (kD V.str st.pl)):=ev_dK e2 (ev_dK e1 hpl trivial) trivial
     have rok:StrsOk (ps.drop 4):=pok.strs.sub fun z hz=>List.mem_of_mem_drop hz
     refine ⟨fun σ' H'=>σ'=[some (.ref R),some (.ref p),some (.str (p0 ps 2)),some (.ref rs),some (.bl (restB (p0 ps 2) (ps.drop 4))),none]∧Ev TS [] H2 H',?_,?_⟩
     ·clear e1 e2 E2
      walk_at "rd"
      refine ite2 (fun c=>?_) (fun c=>?_)
      ·have w1:p0 ps 2=("order" : Str):=by rw [dec_str] at c; exact of_decide_eq_true c
       walk_at "rd"
       refine ⟨by show 0≤sizeLine; decide,fun a1 ha1=>?_⟩
       generalize hX:upd _ a1 _=H3
       obtain ⟨e3,h3⟩:=new_facts (TS:=TS) hX ha1
       clear hX
       walk_at "rs"
       refine ⟨by show 1≤sizeLine; decide,fun a2 ha2=>?_⟩
       generalize hX:upd _ a2 _=H4
       obtain ⟨e4,h4⟩:=new_facts (TS:=TS) hX ha2
       clear hX
       walk_at "rs"
       refine ⟨by show 2≤sizeLine; decide,fun tq htq=>?_⟩
       generalize hX:upd _ tq _=H5
       obtain ⟨e5,h5⟩:=new_facts (TS:=TS) hX htq
       clear hX
       walk_at "rs"
       have h35:H5 a1=some (.lst (([]:Ps).map V.str)):=show H5 a1=some (.lst []) from (by walk_at "t")
       have h45:H5 a2=some (.lst ((["down"]:Ps).map V.str)):=show H5 a2=some (.lst [.str "down"]) from (by walk_at "t")
       refine a_inLs (gs:=[[],[("down" : Str)]]) (SqL.of (show H5 rs=some (.lst ((ps.drop 4).map V.str)) from (by walk_at "t"))) rok (as:=[a1,a2]) (SqT.of h5) (.cons (SqL.of h35) (.cons (SqL.of h45) .nil)) (fun g hg=>by simp only [List.mem_cons,List.not_mem_nil,or_false] at hg; rcases hg with rfl | rfl <;> (unfold StrsOk; decide +kernel)) ?_
       walk_at "rd"
       have er:restB (p0 ps 2) (ps.drop 4)=([[],[("down" : Str)]].any fun g=>decide (ps.drop 4=g)):=by unfold restB; rw [if_pos w1]; simp only [List.any_cons,List.any_nil,Bool.or_false]
       exact ⟨by rw [er]; rfl,(by walk_at "e")⟩
      ·have w1:¬ p0 ps 2=("order" : Str):=by rw [dec_str] at c; exact fun z=>c (decide_eq_true z)
       walk_at "rd"
       refine ite2 (fun c=>?_) (fun c=>?_)
       ·have w2:p0 ps 2=("keep" : Str):=by rw [dec_str] at c; exact of_decide_eq_true c
        walk_at "rd"
        refine ⟨rs,ps.drop 4,rfl,h2,pok.drop 4,fun H3 e3=>?_⟩
        walk_at "rd"
        have er:restB (p0 ps 2) (ps.drop 4)=testB (ps.drop 4):=by unfold restB; rw [if_neg w1,if_pos w2]
        exact ⟨by rw [er]; rfl,e3⟩
       ·have w2:¬ p0 ps 2=("keep" : Str):=by rw [dec_str] at c; exact fun z=>c (decide_eq_true z)
        walk_at "rd"
        refine ite2 (fun c=>?_) (fun c=>?_)
        ·have w3:p0 ps 2=("turn" : Str):=by rw [dec_str] at c; exact of_decide_eq_true c
         walk_at "rd"
         refine ⟨by show 0≤sizeLine; decide,fun a1 ha1=>?_⟩
         generalize hX:upd _ a1 _=H3
         obtain ⟨e3,h3⟩:=new_facts (TS:=TS) hX ha1
         clear hX
         walk_at "rs"
         refine a_eqSL (xs:=ps.drop 4) (ys:=[]) (SqL.of (show H3 rs=_ from (by walk_at "t"))) (SqL.of h3) rok strsOk_nil ?_
         walk_at "rd"
         have er:restB (p0 ps 2) (ps.drop 4)=decide (ps.drop 4=[]):=by unfold restB; rw [if_neg w1,if_neg w2,if_pos w3]
         exact ⟨by rw [er]; rfl,e3⟩
        ·have w3:¬ p0 ps 2=("turn" : Str):=by rw [dec_str] at c; exact fun z=>c (decide_eq_true z)
         walk_at "rd"
         refine ite2 (fun c=>?_) (fun c=>?_)
         ·have w4:p0 ps 2=("new" : Str):=by rw [dec_str] at c; exact of_decide_eq_true c
          walk_at "rd"
          refine ⟨by show 1≤sizeLine; decide,fun a1 ha1=>?_⟩
          generalize hX:upd _ a1 _=H3
          obtain ⟨e3,h3⟩:=new_facts (TS:=TS) hX ha1
          clear hX
          walk_at "rs"
          refine ⟨by show 1≤sizeLine; decide,fun a2 ha2=>?_⟩
          generalize hX:upd _ a2 _=H4
          obtain ⟨e4,h4⟩:=new_facts (TS:=TS) hX ha2
          clear hX
          walk_at "rs"
          refine ⟨by show 1≤sizeLine; decide,fun a3 ha3=>?_⟩
          generalize hX:upd _ a3 _=H5
          obtain ⟨e5,h5⟩:=new_facts (TS:=TS) hX ha3
          clear hX
          walk_at "rs"
          refine ⟨by show 3≤sizeLine; decide,fun tq htq=>?_⟩
          generalize hX:upd _ tq _=H6
          obtain ⟨e6,h6⟩:=new_facts (TS:=TS) hX htq
          clear hX
          walk_at "rs"
          have h36:H6 a1=some (.lst ((["front"]:Ps).map V.str)):=show H6 a1=some (.lst [.str "front"]) from (by walk_at "t")
          have h46:H6 a2=some (.lst ((["back"]:Ps).map V.str)):=show H6 a2=some (.lst [.str "back"]) from (by walk_at "t")
          have h56:H6 a3=some (.lst ((["any"]:Ps).map V.str)):=show H6 a3=some (.lst [.str "any"]) from (by walk_at "t")
          refine a_inLs (gs:=[[("front" : Str)],[("back" : Str)],[("any" : Str)]]) (SqL.of (show H6 rs=some (.lst ((ps.drop 4).map V.str)) from (by walk_at "t"))) rok (as:=[a1,a2,a3]) (SqT.of h6) (.cons (SqL.of h36) (.cons (SqL.of h46) (.cons (SqL.of h56) .nil))) (fun g hg=>by simp only [List.mem_cons,List.not_mem_nil,or_false] at hg; rcases hg with rfl | rfl | rfl <;> (unfold StrsOk; decide +kernel)) ?_
          walk_at "rd"
          have er:restB (p0 ps 2) (ps.drop 4)=([[("front" : Str)],[("back" : Str)],[("any" : Str)]].any fun g=>decide (ps.drop 4=g)):=by unfold restB; rw [if_neg w1,if_neg w2,if_neg w3,if_pos w4]; simp only [List.any_cons,List.any_nil,Bool.or_false]
          exact ⟨by rw [er]; rfl,(by walk_at "e")⟩
         ·have w4:¬ p0 ps 2=("new" : Str):=by rw [dec_str] at c; exact fun z=>c (decide_eq_true z)
          have er:restB (p0 ps 2) (ps.drop 4)=(decide (p0 ps 2=("spot" : Str)) && (decide (ps.drop 4=[]) || testB (ps.drop 4))):=by unfold restB; rw [if_neg w1,if_neg w2,if_neg w3,if_neg w4]
          walk_at "rd"
          refine ite2 (fun c=>?_) (fun c=>?_)
          ·have w5:decide (p0 ps 2=("spot" : Str))=true:=by rw [dec_str] at c; exact c
           rw [w5,Bool.true_and] at er
           walk_at "rd"
           refine ⟨by show 0≤sizeLine; decide,fun a1 ha1=>?_⟩
           generalize hX:upd _ a1 _=H3
           obtain ⟨e3,h3⟩:=new_facts (TS:=TS) hX ha1
           clear hX
           walk_at "rs"
           refine a_eqSL (xs:=ps.drop 4) (ys:=[]) (SqL.of (show H3 rs=_ from (by walk_at "t"))) (SqL.of h3) rok strsOk_nil ?_
           walk_at "rd"
           refine ite2 (fun c=>?_) (fun c=>?_)
           ·rw [c,Bool.true_or] at er
            walk_at "rd"
            exact ⟨by rw [er]; rfl,e3⟩
           ·rw [bff c,Bool.false_or] at er
            walk_at "rd"
            refine ⟨rs,ps.drop 4,rfl,(by walk_at "t"),pok.drop 4,fun H4 e4=>?_⟩
            walk_at "rd"
            exact ⟨by rw [er]; rfl,Ev.trans e3 e4 trivial⟩
          ·have w5:decide (p0 ps 2=("spot" : Str))=false:=by rw [dec_str] at c; exact bff c
           rw [w5,Bool.false_and] at er
           walk_at "rd"
           exact ⟨by rw [er]; rfl,Ev.refl _ _⟩
     ·rintro σ' H3 ⟨rfl,e3⟩
      refine ⟨fun σ' H'=>σ'=[some (.ref R),some (.ref p),some (.str (p0 ps 2)),some (.ref rs),some (.bl (restB (p0 ps 2) (ps.drop 4))),some (.str (sortOf (p0 ps 2)))]∧Ev TS [] H2 H',?_,?_⟩
      ·walk_at "rd"
       refine ite2 (fun c=>?_) (fun c=>?_)
       ·have w5:p0 ps 2=("spot" : Str):=by rw [dec_str] at c; exact of_decide_eq_true c
        have es:sortOf (p0 ps 2) = "spot":=by unfold sortOf; rw [if_pos w5]
        walk_at "rd"
        exact ⟨by rw [es]; rfl,e3⟩
       ·have w5:¬ p0 ps 2=("spot" : Str):=by rw [dec_str] at c; exact fun z=>c (decide_eq_true z)
        have es:sortOf (p0 ps 2) = "move":=by unfold sortOf; rw [if_neg w5]
        walk_at "rd"
        exact ⟨by rw [es]; rfl,e3⟩
      ·clear e3
       rintro σ' H3 ⟨rfl,e3⟩
       have E3:=Ev.trans E2 e3 trivial
       have hR3:H3 R=some (.ins CR dx (rdF qg qp qd qb ql qpl st.st)):=ev_ins e3 hR2 trivial
       have hps3:H3 p=some (.lst (ps.map V.str)):=ev_lst e3 hps2 trivial
       have hpl3:H3 qpl=some (.dK (kD V.str st.pl)):=ev_dK e3 hpl2 trivial
       have ky:(!restB (p0 ps 2) (ps.drop 4) || !decide ((gk st.pl (p0 ps 1)).getD (sortOf (p0 ps 2))=sortOf (p0 ps 2)))=true→Q (.bl false) H3:=fun z=>k2 (by unfold accTake; rw [if_neg f1,if_pos z]) _ (E3.mono (by simp))
       walk_at "rd"
       refine ite2 (fun c=>?_) (fun c=>?_)
       ·walk_at "rd"
        exact ky (by rw [c]; rfl)
       ·walk_at "rd"
        refine ⟨R,CR,dx,_,_,rfl,hR3,T.ckR,T.ra _ (by simp),l_plans,?_⟩
        refine ⟨qpl,rfl,.inl ⟨_,.inl hpl3⟩,?_⟩
        walk_at "rd"
        refine a_ixS 1 hps3 (by omega) ?_
        walk_at "rd"
        refine ⟨_,DGet.k (k:=.inr (p0 ps 1)) hpl3,?_⟩
        rw [kD_val,getD_map]
        walk_at "rd"
        refine ite2 (fun c2=>?_) (fun c2=>?_)
        ·walk_at "rd"
         rw [dec_str] at c2
         exact ky (by rw [c2,Bool.or_true])
        ·walk_at "rd"
         refine ⟨R,CR,dx,_,_,rfl,hR3,T.ckR,T.ra _ (by simp),l_plans,?_⟩
         walk_at "rd"
         refine a_ixS 1 hps3 (by omega) ?_
         refine ⟨qpl,_,rfl,DPut.k (k:=.inr (p0 ps 1)) hpl3 (by rw [kD_len]; exact lt_line (by have:=rb.pl; omega)),?_⟩
         generalize hX:upd _ qpl _=H4
         obtain ⟨e4,h4⟩:=setD_facts (TS:=TS) hX hpl3
         clear hX
         walk_at "rs"
         rw [kD_put] at h4
         walk_at "rd"
         have hg3:H3 qg=some (.lst (as.map V.ref)):=ev_lst E3 hg trivial
         have hb3:H3 qb=some (.lst (st.bl.map V.str)):=ev_lst E3 hb trivial
         have hd3:H3 qd=some (.tup [.str st.df.1,.int st.df.2]):=ev_tup E3 hd
         have hp3:H3 qp=some (.dK (kD V.int st.prs)):=ev_dK E3 hp trivial
         have hl3:SqT K H3 ql (st.ls.map V.str):=ev_sqT E3 hl
         rw [dec_str] at c2
         refine k1 { st with pl:=pk st.pl (p0 ps 1) (sortOf (p0 ps 2)) } (by unfold accTake; rw [if_neg f1,if_neg (by rw [Bool.or_eq_true]; exact fun z=>z.elim c c2)]) H4 qpl (Ev.trans (E3.mono (L1:=[R,qg,qp,qb,qpl]) (by simp)) e4 ⟨.inl (by simp),trivial⟩) ⟨dx,qd,ql,as,(by walk_at "t"),(by walk_at "t"),(ga.ev E3).ev e4,(by walk_at "t"),(by walk_at "t"),(by walk_at "t"),(by walk_at "t"),h4,n1,n2⟩ (.inl rfl)
end
def accSim (s:RS) (ps:Ps):Option RS:=if simB s ps=true then some s else none
theorem mem_two {x a b:Str}:x∈[a,b]↔x=a∨x=b:=by simp only [List.mem_cons,List.not_mem_nil,or_false]
theorem dec_len {ps:Ps} {k:Nat} {i:Int} (e:i=(k:Int)):decide (V.int ((ps.map V.str).length:Int)=V.int i)=decide (ps.length=k):=by
 rw [List.length_map,e]
 exact decide_eq_decide.mpr ⟨fun z=>by injection z with z; omega,fun z=>by rw [z]⟩
theorem dec_int (a b:Int):decide (V.int a=V.int b)=decide (a=b):=decide_eq_decide.mpr ⟨fun z=>V.int.inj z,fun z=>by rw [z]⟩
theorem a_inS {K:PySem.W.Frag} {H:Hp} {x:Str} {t:Addr} {xs:List V} {Q:VK} (ps:Ps) (h:SqL K H t xs∨SqT K H t xs) (e:xs=ps.map V.str) (k:Q (.bl (decide (x∈ps))) H):rIn K false (.str x) (.ref t) H Q:=by
 subst e
 refine ⟨t,_,rfl,h,rfl,flat_strs _,?_⟩
 rw [if_neg (by decide),inV_strs]
 exact k
theorem a_notInS {K:PySem.W.Frag} {H:Hp} {x:Str} {t:Addr} {xs:List V} {Q:VK} (ps:Ps) (h:SqL K H t xs∨SqT K H t xs) (e:xs=ps.map V.str) (k:Q (.bl (!decide (x∈ps))) H):rIn K true (.str x) (.ref t) H Q:=by
 subst e
 refine ⟨t,_,rfl,h,rfl,flat_strs _,?_⟩
 rw [if_pos rfl,inV_strs]
 exact k
section
variable {P:Program} {w:World} {K:PySem.W.Frag} {mg:Str→Option Value} {base:Heap} {KPT SGN MVG BLK CR:Addr} {TS:List (Addr × Str)}
theorem sc_rd_simple:FnScope ["self","parts","word","name"] ["self","parts"] (defScope s_rd_simple):=⟨rfl,rfl,rfl,by decide +kernel,rfl,by decide +kernel,by decide +kernel⟩
theorem ok_rd_simple {f:Addr} {fd:FuncData} (F:Fun K "accept_simple" "Reader.accept_simple" s_rd_simple f fd) (T:TxtRd K mg KPT SGN MVG BLK CR) (Disnml:Cl P w K mg base CX0 1 "is_numeral" (spIsNml TS)):FnR P w K mg base CX0 2 f (spAcc TS K CR accSim):=by
 refine fnr F sc_rd_simple (fun vs H Q E h=>?_) (fun _ _ _ _ _ _ us hl=>match us,hl with | [_,_],_=>rfl) (fun cdv A outer s H vs Q E hr h=>?_)
 ·obtain ⟨R,p,s,ps,qg,qp,qb,qpl,n,rfl,_⟩:=h
  rfl
 ·obtain ⟨R,p,st,ps,qg,qp,qb,qpl,n,rfl,⟨dx,qd,ql,as,hR,hg,ga,hp,hd,hb,hl,hpl,n1,n2⟩,rb,hn,hps,pok,hne,np1,np2,k1,k2⟩:=h
  have kb:∀ (b:Bool),simB st ps=b→∀ (H':Hp),Ev TS [] H H'→Q (.bl b) H':=fun b hb' H' e=>by
   have hg':H' qg=some (.lst (as.map V.ref)):=ev_lst e hg trivial
   cases b with
   | true=>exact k1 st (by unfold accSim; rw [if_pos hb']) H' qpl (e.mono (by simp)) ⟨dx,qd,ql,as,ev_ins e hR trivial,hg',ga.ev e,ev_dK e hp trivial,ev_tup e hd,ev_lst e hb trivial,ev_sqT e hl,ev_dK e hpl trivial,n1,n2⟩ (.inl rfl)
   | false=>exact k2 (by unfold accSim; rw [if_neg (by rw [hb']; exact Bool.false_ne_true)]) H' (e.mono (by simp))
  clear k1 k2
  have hlen:0 < ps.length:=List.length_pos_iff.mpr hne
  refine ⟨_,(pss_cons (ps_set (i:=2) sc_rd_simple.nd rfl (Or.inl rfl) (pe_ix ix_list (pv 1) pe_int (fun _ _=>rfl)))
   (pss_cons (ps_if (pt_cmpR op_in_seq (pv 2) (pe_tup (pa_cons pe_str (pa_cons pe_str pa_nil))) rfl) (pss_one (ps_ret (pe_cmpR op_eq (pe_callB call_len_seq (by rfl) T.n_len (by decide +kernel) (pa_cons (pv 1) pa_nil)) pe_int (nomark _)))) pss_nil)
   (pss_cons (ps_if (pt_cmpR op_eq (pv 2) pe_str (nomark _)) (pss_cons (ps_if (PW.pt (pw_or (pt_cmpR op_lt (pe_callB call_len_seq (by rfl) T.n_len (by decide +kernel) (pa_cons (pv 1) pa_nil)) pe_int (nomark _)) (pw_or1 (pt_cmpR op_ne (pe_dget2 (hu_of hr) (pe_fld (pv 0) (by rfl)) (pe_ix ix_list (pv 1) pe_int (fun _ _=>rfl)) (pe_un un_neg pe_int) ⟨rfl,rfl,rfl,rfl⟩) (pe_op op_sub (pe_callB call_len_seq (by rfl) T.n_len (by decide +kernel) (pa_cons (pv 1) pa_nil)) pe_int) (nomark _))))) (pss_one (ps_ret pe_bl)) pss_nil)
    (pss_one (ps_ret (pe_callB (cr_all rfl) (by rfl) T.n_all (by decide +kernel) (pa_cons (pe_lc (own:=[("name",3)]) (by rfl) sc_rd_simple.nd (pi_list (pe_slice sl_list (pv 1) (po_some pe_int) po_none)) (blkOk_by (own:=[("name",3)]) (N:=["self","parts","word","name"]) (sc:=defScope s_rd_simple) (by first | decide +kernel | kernel_rfl)) (fun _ _ _ _ _=>(pg_name (i:=3) sc_rd_simple.nd rfl (Or.inl rfl))) (fun _ _ _ _ _=>by exact pts_nil) (fun _ _ _ _ _=>by exact (pe_cmpR (op_in_seqK (K:=K) (by rfl)) (pv 3) (pe_fldK (K:=K) (by rfl) (pv 0) (by rfl)) (by rfl)))) pa_nil))))) pss_nil)
   (pss_cons (ps_if (pt_cmpR op_eq (pv 2) pe_str (nomark _)) (pss_one (ps_ret (pe_and (pe_cmpR op_eq (pe_callB call_len_seq (by rfl) T.n_len (by decide +kernel) (pa_cons (pv 1) pa_nil)) pe_int (nomark _)) (pe_and (pe_cmpR op_eq (pe_ix ix_list (pv 1) pe_int (fun _ _=>rfl)) pe_str (nomark _)) (pe_and (pe_cmpR op_in_seq (pe_ix ix_list (pv 1) pe_int (fun _ _=>rfl)) (pe_fld (pv 0) (by rfl)) rfl) (pe_one (pe_cmpR op_in_seq (pe_ix ix_list (pv 1) pe_int (fun _ _=>rfl)) (pe_fld (pv 0) (by rfl)) rfl))))))) pss_nil)
   (pss_cons (ps_if (PW.pt (pw_or (pt_cmpR op_ne (pe_callB call_len_seq (by rfl) T.n_len (by decide +kernel) (pa_cons (pv 1) pa_nil)) (pe_ifExp (pt_cmpR op_eq (pv 2) pe_str (nomark _)) pe_int pe_int) (nomark _)) (pw_or1 (pt_cmpR op_notIn_seq (pe_ix ix_list (pv 1) pe_int (fun _ _=>rfl)) (pe_fld (pv 0) (by rfl)) rfl)))) (pss_one (ps_ret pe_bl)) pss_nil)
   (pss_cons (ps_if (pt_cmpR op_eq (pv 2) pe_str (nomark _)) (pss_one (ps_ret (pe_cmpR op_eq (pe_dget2 (hu_of hr) (pe_fld (pv 0) (by rfl)) (pe_ix ix_list (pv 1) pe_int (fun _ _=>rfl)) pe_str ⟨rfl,rfl,rfl,rfl⟩) pe_str (nomark _)))) pss_nil)
   (pss_cons (ps_if (PW.pt (pw_or (pt_cmpR op_notIn_seq (pv 2) (pe_tup (pa_cons pe_str (pa_cons pe_str pa_nil))) rfl) (pw_or1 (pt_cmpR op_ne (pe_dget2 (hu_of hr) (pe_fld (pv 0) (by rfl)) (pe_ix ix_list (pv 1) pe_int (fun _ _=>rfl)) pe_str ⟨rfl,rfl,rfl,rfl⟩) pe_str (nomark _))))) (pss_one (ps_ret pe_bl)) pss_nil)
   (pss_one (ps_ret (pe_or (pe_cmpR op_eq (pv 2) pe_str (nomark _)) (pe_one (pe_cl Disnml hr (by decide) (by rfl) pass0 (pa_cons (pe_ix ix_list (pv 1) pe_int (fun _ _=>rfl)) pa_nil))))))))))))),?_⟩
  walk_at "rd"
  refine a_ixS 0 hps hlen ?_
  walk_at "rd"
  refine ⟨by show 2≤sizeLine; decide,fun t1 ht1=>?_⟩
  generalize hX:upd _ t1 _=H1
  obtain ⟨e1,h1⟩:=new_facts (TS:=TS) hX ht1
  clear hX
  walk_at "rs"
  refine a_inS [("check" : Str),("stop" : Str)] (.inr (SqT.of h1)) rfl ?_
  walk_at "rd"
  have hps1:H1 p=some (.lst (ps.map V.str)):=(by walk_at "t")
  have hR1:H1 R=some (.ins CR dx (rdF qg qp qd qb ql qpl st.st)):=(by walk_at "t")
  have hp1:H1 qp=some (.dK (kD V.int st.prs)):=(by walk_at "t")
  have hl1:SqT K H1 ql (st.ls.map V.str):=(by walk_at "t")
  have hpl1:H1 qpl=some (.dK (kD V.str st.pl)):=(by walk_at "t")
  refine ite2 (fun c=>?_) (fun c=>?_)
  ·have w1:p0 ps 0=("check" : Str)∨p0 ps 0=("stop" : Str):=mem_two.mp (of_decide_eq_true c)
   walk_at "rd"
   refine ⟨p,_,rfl,.inl (SqL.of hps1),?_⟩
   walk_at "rd"
   refine kb _ ?_ _ e1
   unfold simB
   rw [if_pos w1,List.length_map]
   exact decide_eq_decide.mpr ⟨fun z=>by rw [z]; rfl,fun z=>by injection z with z; omega⟩
  ·have w1:¬ (p0 ps 0=("check" : Str)∨p0 ps 0=("stop" : Str)):=fun z=>c (decide_eq_true (mem_two.mpr z))
   walk_at "rd"
   refine ite2 (fun c=>?_) (fun c=>?_)
   ·have w2:p0 ps 0=("call" : Str):=by rw [dec_str] at c; exact of_decide_eq_true c
    have es:simB st ps=(if (decide (ps.length < 3) || !decide ((gk st.prs (p0 ps 1)).getD (-1)=(ps.length:Int) - 2))=true then false else (ps.drop 2).all fun n=>decide (n∈st.ls)):=by unfold simB; rw [if_neg w1,if_pos w2]
    walk_at "rd"
    refine ⟨p,_,rfl,.inl (SqL.of hps1),?_⟩
    walk_at "rd"
    refine ite2 (fun c=>?_) (fun c=>?_)
    ·have c1:ps.length < 3:=by rw [List.length_map] at c; have:=of_decide_eq_true c; omega
     walk_at "rd"
     exact kb _ (by rw [es,decide_eq_true c1]; rfl) _ e1
    ·have c1:¬ ps.length < 3:=by rw [List.length_map] at c; exact fun z=>c (decide_eq_true (by omega))
     rw [decide_eq_false c1,Bool.false_or] at es
     walk_at "rd"
     refine ⟨R,CR,dx,_,_,rfl,hR1,T.ckR,T.ra _ (by simp),l_procedures,?_⟩
     refine ⟨qp,rfl,.inl ⟨_,.inl hp1⟩,?_⟩
     walk_at "rd"
     refine a_ixS 1 hps1 (by omega) ?_
     walk_at "rd"
     refine ⟨_,DGet.k (k:=.inr (p0 ps 1)) hp1,?_⟩
     rw [kD_val]
     walk_at "rd"
     refine ⟨p,_,rfl,.inl (SqL.of hps1),?_⟩
     rw [show ((Option.map V.int (gk st.prs (p0 ps 1))).getD ((fun i=>V.int (-i)) 1))=V.int ((gk st.prs (p0 ps 1)).getD (-1)) from getD_map V.int _ (-1)]
     walk_at "rd"
     rw [dec_int,List.length_map]
     refine ite2 (fun c=>?_) (fun c=>?_)
     ·walk_at "rd"
      exact kb _ (by rw [es,if_pos c]) _ e1
     ·rw [if_neg c] at es
      walk_at "rd"
      dsimp only [tNoPart]
      refine a_slSfrom (TS:=TS) 2 hps1 fun sl H2 hsl e2 h2=>?_
      walk_at "rd"
      have E2:=Ev.trans e1 e2 trivial
      refine ⟨⟨_,SqL.of h2⟩,fun D hD=>lc_ev (TS:=TS) (walk_list (xs:=(ps.drop 2).map V.str)) hD (fun k acc H'=>Ev TS [] H2 H'∧acc=(((ps.drop 2).take k).map fun n=>decide (n∈st.ls)).map V.bl) (fun H5 e5 h5=>⟨e5,by simp⟩) (fun k acc H' _ hI _=>ev_sqL hI.1 (SqL.of h2) trivial) ?_ ?_⟩
      ·rintro k x acc Hz H5 hk ⟨e5,rfl⟩ hD5 ⟨rfl,hx⟩
       have hk':k < (ps.drop 2).length:=by simpa using hk
       rw [List.getElem?_map,List.getElem?_eq_getElem hk'] at hx
       obtain rfl:=Option.some.inj hx
       have E5:=Ev.trans E2 e5 trivial
       have hR5:H5 R=some (.ins CR dx (rdF qg qp qd qb ql qpl st.st)):=ev_ins E5 hR trivial
       walk_at "rd"
       refine ⟨R,CR,dx,_,_,rfl,hR5,T.ckR,T.ra _ (by simp),l_lists,?_⟩
       refine a_inS st.ls (.inr (ev_sqT E5 hl)) rfl ?_
       refine lc_put (TS:=TS) hD5 (by rw [List.length_map,List.length_map,List.length_take]; exact lt_line (by have:=pok.l; rw [List.length_drop]; omega)) fun H6 e6 h6=>?_
       have nD:NA H2 D:=.of hD
       refine ⟨Ev.trans e5 e6 ⟨.inr nD,trivial⟩,?_⟩
       have tk:(ps.drop 2).take (k+1)=(ps.drop 2).take k++[(ps.drop 2)[k]]:=by
        rw [List.take_add_one,List.getElem?_eq_getElem hk']
        rfl
       rw [tk,List.map_append,List.map_append]
       rfl
      ·rintro acc H5 ⟨e5,rfl⟩ hD5
       rw [List.length_map,List.take_length] at hD5
       walk_at "rd"
       refine ⟨D,_,rfl,SqL.of hD5,?_⟩
       rw [all_map_bl]
       exact kb _ es _ (Ev.trans E2 e5 trivial)
   ·have w2:¬ p0 ps 0=("call" : Str):=by rw [dec_str] at c; exact fun z=>c (decide_eq_true z)
    walk_at "rd"
    refine ite2 (fun c=>?_) (fun c=>?_)
    ·have w3:p0 ps 0=("pour" : Str):=by rw [dec_str] at c; exact of_decide_eq_true c
     have es:simB st ps=(decide (ps.length=4) && (decide (p0 ps 2 = "into") && (decide (p0 ps 1∈st.ls) && decide (p0 ps 3∈st.ls)))):=by unfold simB; rw [if_neg w1,if_neg w2,if_pos w3]
     walk_at "rd"
     refine ⟨p,_,rfl,.inl (SqL.of hps1),?_⟩
     walk_at "rd"
     rw [dec_len (ps:=ps) (i:=4) (k:=4) rfl]
     refine ite2 (fun c=>?_) (fun c=>?_)
     ·have c1:ps.length=4:=of_decide_eq_true c
      rw [c,Bool.true_and] at es
      walk_at "rd"
      refine a_ixS 2 hps1 (by omega) ?_
      walk_at "rd"
      rw [dec_str]
      refine ite2 (fun c2=>?_) (fun c2=>?_)
      ·rw [show decide (p0 ps 2=("into" : Str))=true from c2,Bool.true_and] at es
       walk_at "rd"
       refine a_ixS 1 hps1 (by omega) ?_
       walk_at "rd"
       refine ⟨R,CR,dx,_,_,rfl,hR1,T.ckR,T.ra _ (by simp),l_lists,?_⟩
       refine a_inS st.ls (.inr hl1) rfl ?_
       walk_at "rd"
       refine ite2 (fun c3=>?_) (fun c3=>?_)
       ·rw [show decide (p0 ps 1∈st.ls)=true from c3,Bool.true_and] at es
        walk_at "rd"
        refine a_ixS 3 hps1 (by omega) ?_
        walk_at "rd"
        refine ⟨R,CR,dx,_,_,rfl,hR1,T.ckR,T.ra _ (by simp),l_lists,?_⟩
        refine a_inS st.ls (.inr hl1) rfl ?_
        exact kb _ es _ e1
       ·rw [show decide (p0 ps 1∈st.ls)=false from bff c3,Bool.false_and] at es
        walk_at "rd"
        exact kb _ es _ e1
      ·rw [show decide (p0 ps 2=("into" : Str))=false from bff c2,Bool.false_and] at es
       walk_at "rd"
       exact kb _ es _ e1
     ·rw [bff c,Bool.false_and] at es
      walk_at "rd"
      exact kb _ es _ e1
    ·have w3:¬ p0 ps 0=("pour" : Str):=by rw [dec_str] at c; exact fun z=>c (decide_eq_true z)
     walk_at "rd"
     refine ⟨p,_,rfl,.inl (SqL.of hps1),?_⟩
     walk_at "rd"
     have kz:(!decide (ps.length=if p0 ps 0 = "set" then 4 else 3) || !decide (p0 ps 1∈st.ls))=true→∀ (H':Hp),Ev TS [] H H'→Q (.bl false) H':=fun z=>kb _ (by unfold simB; rw [if_neg w1,if_neg w2,if_neg w3,if_pos z])
     refine ite2 (fun c=>?_) (fun c=>?_)
     ·have w5:p0 ps 0=("set" : Str):=by rw [dec_str] at c; exact of_decide_eq_true c
      walk_at "rd"
      rw [dec_len (ps:=ps) (i:=4) (k:=4) rfl]
      refine ite2 (fun c5=>?_) (fun c5=>?_)
      ·walk_at "rd"
       exact kz (by rw [if_pos w5,c5]; rfl) _ e1
      ·have hL:ps.length=if p0 ps 0 = "set" then 4 else 3:=by rw [if_pos w5]; exact of_decide_eq_true (btf c5)
       have hL3:3≤ps.length:=by rw [hL,if_pos w5]; omega
       walk_at "rd"
       refine a_ixS 1 hps1 (by omega) ?_
       walk_at "rd"
       refine ⟨R,CR,dx,_,_,rfl,hR1,T.ckR,T.ra _ (by simp),l_lists,?_⟩
       refine a_notInS st.ls (.inr hl1) rfl ?_
       walk_at "rd"
       refine ite2 (fun c6=>?_) (fun c6=>?_)
       ·walk_at "rd"
        exact kz (by rw [show (!decide (p0 ps 1∈st.ls))=true from c6,Bool.or_true]) _ e1
       ·have es:simB st ps=(if p0 ps 0 = "move" then decide ((gk st.pl (p0 ps 2)).getD Str.empty = "move") else if (!(decide (p0 ps 0 = "cut") || decide (p0 ps 0 = "set")) || !decide ((gk st.pl (p0 ps 2)).getD Str.empty = "spot"))=true then false else decide (p0 ps 0 = "cut") || nmlB (p0 ps 3)):=by
         unfold simB
         rw [if_neg w1,if_neg w2,if_neg w3,if_neg]
         rw [Bool.or_eq_true]
         exact fun z=>z.elim (fun z=>absurd hL (of_decide_eq_false (bnf z))) c6
        walk_at "rd"
        rw [dec_str]
        refine ite2 (fun c7=>?_) (fun c7=>?_)
        ·rw [if_pos (show p0 ps 0 = "move" from of_decide_eq_true c7)] at es
         walk_at "rd"
         refine ⟨R,CR,dx,_,_,rfl,hR1,T.ckR,T.ra _ (by simp),l_plans,?_⟩
         refine ⟨qpl,rfl,.inl ⟨_,.inl hpl1⟩,?_⟩
         walk_at "rd"
         refine a_ixS 2 hps1 (by omega) ?_
         walk_at "rd"
         refine ⟨_,DGet.k (k:=.inr (p0 ps 2)) hpl1,?_⟩
         rw [kD_val,show (Option.map V.str (gk st.pl (p0 ps 2))).getD (V.str (Str.ofString ""))=V.str ((gk st.pl (p0 ps 2)).getD Str.empty) from getD_map V.str _ Str.empty]
         walk_at "rd"
         rw [dec_str]
         exact kb _ es _ e1
        ·have w4:¬ p0 ps 0 = "move":=fun z=>c7 (decide_eq_true z)
         rw [if_neg w4] at es
         walk_at "rd"
         refine ⟨by show 2≤sizeLine; decide,fun t2 ht2=>?_⟩
         generalize hX:upd _ t2 _=H2
         obtain ⟨e2,h2⟩:=new_facts (TS:=TS) hX ht2
         clear hX
         walk_at "rs"
         refine a_notInS [("cut" : Str),("set" : Str)] (.inr (SqT.of h2)) rfl ?_
         walk_at "rd"
         have E2:=Ev.trans e1 e2 trivial
         have hps2:H2 p=some (.lst (ps.map V.str)):=(by walk_at "t")
         have hR2:H2 R=some (.ins CR dx (rdF qg qp qd qb ql qpl st.st)):=(by walk_at "t")
         have hpl2:H2 qpl=some (.dK (kD V.str st.pl)):=(by walk_at "t")
         have em:decide (p0 ps 0∈[("cut" : Str),("set" : Str)])=(decide (p0 ps 0=("cut" : Str)) || decide (p0 ps 0=("set" : Str))):=by rw [← Bool.decide_or]; exact decide_eq_decide.mpr mem_two
         refine ite2 (fun c8=>?_) (fun c8=>?_)
         ·have c8':(!decide (p0 ps 0∈[("cut" : Str),("set" : Str)]))=true:=c8
          rw [em] at c8'
          rw [c8',Bool.true_or,if_pos rfl] at es
          walk_at "rd"
          exact kb _ es _ E2
         ·have c8':¬ (!decide (p0 ps 0∈[("cut" : Str),("set" : Str)]))=true:=c8
          rw [em] at c8'
          rw [bff c8',Bool.false_or] at es
          walk_at "rd"
          refine ⟨R,CR,dx,_,_,rfl,hR2,T.ckR,T.ra _ (by simp),l_plans,?_⟩
          refine ⟨qpl,rfl,.inl ⟨_,.inl hpl2⟩,?_⟩
          walk_at "rd"
          refine a_ixS 2 hps2 (by omega) ?_
          walk_at "rd"
          refine ⟨_,DGet.k (k:=.inr (p0 ps 2)) hpl2,?_⟩
          rw [kD_val,show (Option.map V.str (gk st.pl (p0 ps 2))).getD (V.str (Str.ofString ""))=V.str ((gk st.pl (p0 ps 2)).getD Str.empty) from getD_map V.str _ Str.empty]
          walk_at "rd"
          rw [dec_str]
          refine ite2 (fun c9=>?_) (fun c9=>?_)
          ·rw [if_pos c9] at es
           walk_at "rd"
           exact kb _ es _ E2
          ·rw [if_neg c9] at es
           walk_at "rd"
           rw [dec_str]
           refine ite2 (fun c10=>?_) (fun c10=>?_)
           ·rw [show decide (p0 ps 0=("cut" : Str))=true from c10,Bool.true_or] at es
            walk_at "rd"
            exact kb _ es _ E2
           ·rw [show decide (p0 ps 0=("cut" : Str))=false from bff c10,Bool.false_or] at es
            have hset:p0 ps 0=("set" : Str):=by
             have:=btf (by rw [Bool.not_eq_true'] at c8'; exact fun z=>c8' (bnf z))
             rw [show decide (p0 ps 0=("cut" : Str))=false from bff c10,Bool.false_or] at this
             exact of_decide_eq_true this
            have h4:ps.length=4:=by rw [hL,if_pos hset]
            walk_at "rd"
            refine a_ixS 3 hps2 (by omega) ?_
            walk_at "rd"
            refine ⟨(pok.p0 (j:=3) (by omega)).w,fun H3 e3=>?_⟩
            exact kb _ es _ (Ev.trans E2 e3 trivial)
     ·have w5:¬ p0 ps 0=("set" : Str):=by rw [dec_str] at c; exact fun z=>c (decide_eq_true z)
      walk_at "rd"
      rw [dec_len (ps:=ps) (i:=3) (k:=3) rfl]
      refine ite2 (fun c5=>?_) (fun c5=>?_)
      ·walk_at "rd"
       exact kz (by rw [if_neg w5,c5]; rfl) _ e1
      ·have hL:ps.length=if p0 ps 0 = "set" then 4 else 3:=by rw [if_neg w5]; exact of_decide_eq_true (btf c5)
       have hL3:3≤ps.length:=by rw [hL,if_neg w5]; omega
       walk_at "rd"
       refine a_ixS 1 hps1 (by omega) ?_
       walk_at "rd"
       refine ⟨R,CR,dx,_,_,rfl,hR1,T.ckR,T.ra _ (by simp),l_lists,?_⟩
       refine a_notInS st.ls (.inr hl1) rfl ?_
       walk_at "rd"
       refine ite2 (fun c6=>?_) (fun c6=>?_)
       ·walk_at "rd"
        exact kz (by rw [show (!decide (p0 ps 1∈st.ls))=true from c6,Bool.or_true]) _ e1
       ·have es:simB st ps=(if p0 ps 0 = "move" then decide ((gk st.pl (p0 ps 2)).getD Str.empty = "move") else if (!(decide (p0 ps 0 = "cut") || decide (p0 ps 0 = "set")) || !decide ((gk st.pl (p0 ps 2)).getD Str.empty = "spot"))=true then false else decide (p0 ps 0 = "cut") || nmlB (p0 ps 3)):=by
         unfold simB
         rw [if_neg w1,if_neg w2,if_neg w3,if_neg]
         rw [Bool.or_eq_true]
         exact fun z=>z.elim (fun z=>absurd hL (of_decide_eq_false (bnf z))) c6
        walk_at "rd"
        rw [dec_str]
        refine ite2 (fun c7=>?_) (fun c7=>?_)
        ·rw [if_pos (show p0 ps 0 = "move" from of_decide_eq_true c7)] at es
         walk_at "rd"
         refine ⟨R,CR,dx,_,_,rfl,hR1,T.ckR,T.ra _ (by simp),l_plans,?_⟩
         refine ⟨qpl,rfl,.inl ⟨_,.inl hpl1⟩,?_⟩
         walk_at "rd"
         refine a_ixS 2 hps1 (by omega) ?_
         walk_at "rd"
         refine ⟨_,DGet.k (k:=.inr (p0 ps 2)) hpl1,?_⟩
         rw [kD_val,show (Option.map V.str (gk st.pl (p0 ps 2))).getD (V.str (Str.ofString ""))=V.str ((gk st.pl (p0 ps 2)).getD Str.empty) from getD_map V.str _ Str.empty]
         walk_at "rd"
         rw [dec_str]
         exact kb _ es _ e1
        ·have w4:¬ p0 ps 0 = "move":=fun z=>c7 (decide_eq_true z)
         rw [if_neg w4] at es
         walk_at "rd"
         refine ⟨by show 2≤sizeLine; decide,fun t2 ht2=>?_⟩
         generalize hX:upd _ t2 _=H2
         obtain ⟨e2,h2⟩:=new_facts (TS:=TS) hX ht2
         clear hX
         walk_at "rs"
         refine a_notInS [("cut" : Str),("set" : Str)] (.inr (SqT.of h2)) rfl ?_
         walk_at "rd"
         have E2:=Ev.trans e1 e2 trivial
         have hps2:H2 p=some (.lst (ps.map V.str)):=(by walk_at "t")
         have hR2:H2 R=some (.ins CR dx (rdF qg qp qd qb ql qpl st.st)):=(by walk_at "t")
         have hpl2:H2 qpl=some (.dK (kD V.str st.pl)):=(by walk_at "t")
         have em:decide (p0 ps 0∈[("cut" : Str),("set" : Str)])=(decide (p0 ps 0=("cut" : Str)) || decide (p0 ps 0=("set" : Str))):=by rw [← Bool.decide_or]; exact decide_eq_decide.mpr mem_two
         refine ite2 (fun c8=>?_) (fun c8=>?_)
         ·have c8':(!decide (p0 ps 0∈[("cut" : Str),("set" : Str)]))=true:=c8
          rw [em] at c8'
          rw [c8',Bool.true_or,if_pos rfl] at es
          walk_at "rd"
          exact kb _ es _ E2
         ·have c8':¬ (!decide (p0 ps 0∈[("cut" : Str),("set" : Str)]))=true:=c8
          rw [em] at c8'
          rw [bff c8',Bool.false_or] at es
          walk_at "rd"
          refine ⟨R,CR,dx,_,_,rfl,hR2,T.ckR,T.ra _ (by simp),l_plans,?_⟩
          refine ⟨qpl,rfl,.inl ⟨_,.inl hpl2⟩,?_⟩
          walk_at "rd"
          refine a_ixS 2 hps2 (by omega) ?_
          walk_at "rd"
          refine ⟨_,DGet.k (k:=.inr (p0 ps 2)) hpl2,?_⟩
          rw [kD_val,show (Option.map V.str (gk st.pl (p0 ps 2))).getD (V.str (Str.ofString ""))=V.str ((gk st.pl (p0 ps 2)).getD Str.empty) from getD_map V.str _ Str.empty]
          walk_at "rd"
          rw [dec_str]
          refine ite2 (fun c9=>?_) (fun c9=>?_)
          ·rw [if_pos c9] at es
           walk_at "rd"
           exact kb _ es _ E2
          ·rw [if_neg c9] at es
           walk_at "rd"
           rw [dec_str]
           refine ite2 (fun c10=>?_) (fun c10=>?_)
           ·rw [show decide (p0 ps 0=("cut" : Str))=true from c10,Bool.true_or] at es
            walk_at "rd"
            exact kb _ es _ E2
           ·rw [show decide (p0 ps 0=("cut" : Str))=false from bff c10,Bool.false_or] at es
            have hset:p0 ps 0=("set" : Str):=by
             have:=btf (by rw [Bool.not_eq_true'] at c8'; exact fun z=>c8' (bnf z))
             rw [show decide (p0 ps 0=("cut" : Str))=false from bff c10,Bool.false_or] at this
             exact of_decide_eq_true this
            have h4:ps.length=4:=by rw [hL,if_pos hset]
            walk_at "rd"
            refine a_ixS 3 hps2 (by omega) ?_
            walk_at "rd"
            refine ⟨(pok.p0 (j:=3) (by omega)).w,fun H3 e3=>?_⟩
            exact kb _ es _ (Ev.trans E2 e3 trivial)
end
def spAccs (TS:List (Addr × Str)) (K:PySem.W.Frag) (CR:Addr):Sp:=fun vs H Q _=>∃ (R p:Addr) (j:Nat) (s:RS) (ps:Ps) (qg qp qb qpl:Addr) (n:Nat),vs=[.ref R,.int (j:Int),.ref p]∧RdAt K CR H R s qg qp qb qpl∧RB s n∧n≤30000∧H p=some (.lst (ps.map V.str))∧PsOk ps∧p≠qg∧p≠qb ∧
 (∀ s',accLine s j ps=some s'→∀ (H':Hp) (qpl':Addr),Ev TS [R,qg,qp,qb,qpl] H H'→RdAt K CR H' R s' qg qp qb qpl'→(qpl'=qpl∨NA H qpl')→Q (.bl true) H')∧(accLine s j ps=none→∀ H':Hp,Ev TS [R,qg,qp,qb,qpl] H H'→Q (.bl false) H')
theorem RB.begun {s:RS} {n:Nat} (h:RB s n):RB (begun s) n:=by
 unfold MV.begun
 split
 ·exact ⟨h.gs,h.g3,h.prs,h.bl,h.pl,h.ls,h.sb⟩
 ·exact h
section
variable {qg qp qd qb ql qpl q:Addr} {st v:Bool}
theorem m_lists:(rdF qg qp qd qb ql qpl st).lookup ("accept_lists" : Str)=none:=by kernel_rfl
theorem m_define:(rdF qg qp qd qb ql qpl st).lookup ("accept_define" : Str)=none:=by kernel_rfl
theorem m_end:(rdF qg qp qd qb ql qpl st).lookup ("accept_end" : Str)=none:=by kernel_rfl
theorem m_else:(rdF qg qp qd qb ql qpl st).lookup ("accept_else" : Str)=none:=by kernel_rfl
theorem m_take:(rdF qg qp qd qb ql qpl st).lookup ("accept_take" : Str)=none:=by kernel_rfl
theorem m_simple:(rdF qg qp qd qb ql qpl st).lookup ("accept_simple" : Str)=none:=by kernel_rfl
theorem m_accepts:(rdF qg qp qd qb ql qpl st).lookup ("accepts" : Str)=none:=by kernel_rfl
end
section
variable {P:Program} {w:World} {K:PySem.W.Frag} {mg:Str→Option Value} {base:Heap} {KPT SGN MVG BLK CR:Addr} {TS:List (Addr × Str)}
theorem sc_rd_init:FnScope ["self"] ["self"] (defScope s_rd_init):=⟨rfl,rfl,rfl,by decide +kernel,rfl,by decide +kernel,by decide +kernel⟩
theorem ok_rd_init {f:Addr} {fd:FuncData} (F:Fun K "__init__" "Reader.__init__" s_rd_init f fd) (T:TxtRd K mg KPT SGN MVG BLK CR):FnR P w K mg base CX0 1 f (spRdI TS K CR):=by
 refine fnr F sc_rd_init (fun vs H Q E h=>?_) (fun _ _ _ _ _ _ us hl=>match us,hl with | [_],_=>rfl) (fun cdv A outer s H vs Q E hr h=>?_)
 ·obtain ⟨R,dx,rfl,_⟩:=h
  rfl
 ·obtain ⟨R,dx,rfl,hR,k⟩:=h
  refine ⟨_,(pss_cons (ps_fld (pv 0) (pe_lst pa_nil) rfl)
   (pss_cons (ps_fld (pv 0) pe_dnewK rfl)
   (pss_cons (ps_fld (pv 0) (pe_tup (pa_cons pe_str (pa_cons pe_int pa_nil))) rfl)
   (pss_cons (ps_fld (pv 0) (pe_lst pa_nil) rfl)
   (pss_cons (ps_fld (pv 0) (pe_tup pa_nil) rfl)
   (pss_cons (ps_fld (pv 0) pe_dnewK rfl)
   (pss_one (ps_fld (pv 0) pe_bl rfl)))))))),?_⟩
  walk_at "rd"
  refine ⟨by show 0≤sizeLine; decide,fun qg hqg=>?_⟩
  generalize hX:upd _ qg _=H1
  obtain ⟨e1,h1⟩:=new_facts (TS:=TS) hX hqg
  clear hX
  walk_at "rs"
  walk_at "rd"
  have hR1:H1 R=some (.ins CR dx []):=(by walk_at "t")
  refine ⟨R,CR,dx,_,rfl,hR1,T.ckR,T.ra _ (by simp),(by show 0 < 1000; decide),?_⟩
  generalize hX:upd _ R _=H2
  obtain ⟨e2,h2⟩:=setI_facts (TS:=TS) hX hR1
  clear hX
  walk_at "rs"
  walk_at "rd"
  refine fun qp hqp=>?_
  generalize hX:upd _ qp _=H3
  obtain ⟨e3,h3⟩:=new_facts (TS:=TS) hX hqp
  clear hX
  walk_at "rs"
  walk_at "rd"
  have hR3:=ev_ins e3 h2 trivial
  refine ⟨R,CR,dx,_,rfl,hR3,T.ckR,T.ra _ (by simp),(by show 1 < 1000; decide),?_⟩
  generalize hX:upd _ R _=H4
  obtain ⟨e4,h4⟩:=setI_facts (TS:=TS) hX hR3
  clear hX
  walk_at "rs"
  walk_at "rd"
  refine ⟨by show 2≤sizeLine; decide,fun qd hqd=>?_⟩
  generalize hX:upd _ qd _=H5
  obtain ⟨e5,h5⟩:=new_facts (TS:=TS) hX hqd
  clear hX
  walk_at "rs"
  walk_at "rd"
  have hR5:=ev_ins e5 h4 trivial
  refine ⟨R,CR,dx,_,rfl,hR5,T.ckR,T.ra _ (by simp),(by show 2 < 1000; decide),?_⟩
  generalize hX:upd _ R _=H6
  obtain ⟨e6,h6⟩:=setI_facts (TS:=TS) hX hR5
  clear hX
  walk_at "rs"
  walk_at "rd"
  refine ⟨by show 0≤sizeLine; decide,fun qb hqb=>?_⟩
  generalize hX:upd _ qb _=H7
  obtain ⟨e7,h7⟩:=new_facts (TS:=TS) hX hqb
  clear hX
  walk_at "rs"
  walk_at "rd"
  have hR7:=ev_ins e7 h6 trivial
  refine ⟨R,CR,dx,_,rfl,hR7,T.ckR,T.ra _ (by simp),(by show 3 < 1000; decide),?_⟩
  generalize hX:upd _ R _=H8
  obtain ⟨e8,h8⟩:=setI_facts (TS:=TS) hX hR7
  clear hX
  walk_at "rs"
  walk_at "rd"
  refine ⟨by show 0≤sizeLine; decide,fun ql hql=>?_⟩
  generalize hX:upd _ ql _=H9
  obtain ⟨e9,h9⟩:=new_facts (TS:=TS) hX hql
  clear hX
  walk_at "rs"
  walk_at "rd"
  have hR9:=ev_ins e9 h8 trivial
  refine ⟨R,CR,dx,_,rfl,hR9,T.ckR,T.ra _ (by simp),(by show 4 < 1000; decide),?_⟩
  generalize hX:upd _ R _=H10
  obtain ⟨e10,h10⟩:=setI_facts (TS:=TS) hX hR9
  clear hX
  walk_at "rs"
  walk_at "rd"
  refine fun qpl hqpl=>?_
  generalize hX:upd _ qpl _=H11
  obtain ⟨e11,h11⟩:=new_facts (TS:=TS) hX hqpl
  clear hX
  walk_at "rs"
  walk_at "rd"
  have hR11:=ev_ins e11 h10 trivial
  refine ⟨R,CR,dx,_,rfl,hR11,T.ckR,T.ra _ (by simp),(by show 5 < 1000; decide),?_⟩
  generalize hX:upd _ R _=H12
  obtain ⟨e12,h12⟩:=setI_facts (TS:=TS) hX hR11
  clear hX
  walk_at "rs"
  walk_at "rd"
  have hR12:=h12
  refine ⟨R,CR,dx,_,rfl,hR12,T.ckR,T.ra _ (by simp),(by show 6 < 1000; decide),?_⟩
  generalize hX:upd _ R _=H13
  obtain ⟨e13,h13⟩:=setI_facts (TS:=TS) hX hR12
  clear hX
  walk_at "rs"
  walk_at "rd"
  have n1:qg≠qb:=(show NeH H qg qb from (by walk_at "ne"))
  have n2:qp≠qpl:=(show NeH H qp qpl from (by walk_at "ne"))
  refine k H13 qg qp qb qpl (by walk_at "e") ⟨dx,qd,ql,[],?_,(by walk_at "t"),.nil,(by walk_at "t"),(by walk_at "t"),(by walk_at "t"),SqT.of (by walk_at "t"),(by walk_at "t"),n1,n2⟩ (by walk_at "na") (by walk_at "na") (by walk_at "na") (by walk_at "na")
  rw [h13]
  kernel_rfl
end
section
variable {P:Program} {w:World} {K:PySem.W.Frag} {mg:Str→Option Value} {base:Heap} {KPT SGN MVG BLK CR:Addr} {TS:List (Addr × Str)}
theorem sc_rd_accepts:FnScope ["self","at","parts","word"] ["self","at","parts"] (defScope s_rd_accepts):=⟨rfl,rfl,rfl,by decide +kernel,rfl,by decide +kernel,by decide +kernel⟩
theorem ok_rd_accepts {f:Addr} {fd:FuncData} (F:Fun K "accepts" "Reader.accepts" s_rd_accepts f fd) (T:TxtRd K mg KPT SGN MVG BLK CR) (MRaccept_lists:Me P w K mg base CX0 3 CR "accept_lists" (spAcc TS K CR accLists)) (MRaccept_define:Me P w K mg base CX0 3 CR "accept_define" (spAcc TS K CR accDefine))
  (MRaccept_end:Me P w K mg base CX0 1 CR "accept_end" (spAcc TS K CR accEnd)) (MRaccept_else:Me P w K mg base CX0 1 CR "accept_else" (spAcc TS K CR accElse)) (MRaccept_take:Me P w K mg base CX0 3 CR "accept_take" (spAcc TS K CR accTake)) (MRaccept_simple:Me P w K mg base CX0 2 CR "accept_simple" (spAcc TS K CR accSim)) :
  FnR P w K mg base CX0 4 f (spAccs TS K CR):=by
 refine fnr F sc_rd_accepts (fun vs H Q E h=>?_) (fun _ _ _ _ _ _ us hl=>match us,hl with | [_,_,_],_=>rfl) (fun cdv A outer s H vs Q E hr h=>?_)
 ·obtain ⟨R,p,j,s,ps,qg,qp,qb,qpl,n,rfl,_⟩:=h
  rfl
 ·obtain ⟨R,p,j,st,ps,qg,qp,qb,qpl,n,rfl,ra,rb,hn,hps,pok,np1,np2,k1,k2⟩:=h
  obtain ⟨dx,qd,ql,as,hR,hg,ga,hp,hd,hb,hl,hpl,n1,n2⟩:=_root_.id ra
  refine ⟨_,(pss_cons (ps_if (pt_cmpR (op_eqD hr.units) (pv 2) (pe_lst pa_nil) (nomark _)) (pss_one (ps_ret pe_bl)) pss_nil)
   (pss_cons (ps_set (i:=3) sc_rd_accepts.nd rfl (Or.inl rfl) (pe_ix ix_list (pv 2) pe_int (fun _ _=>rfl)))
   (pss_cons (ps_if (PW.pt (pw_or (pt_cmpR op_eq (pv 1) pe_int (nomark _)) (pw_or1 (PW.pt (pw_and (pt_cmpR op_eq (pv 1) pe_int (nomark _)) (pw_and1 (pt_cmpR op_eq (pv 3) pe_str (nomark _)))))))) (pss_one (ps_ret (pe_mo (pv 0) T.ckR MRaccept_lists hr (by decide) pass0 (pa_cons (pv 2) pa_nil)))) pss_nil)
   (pss_cons (ps_if (pt_cmpR op_eq (pv 3) pe_str (nomark _)) (pss_one (ps_ret (pe_mo (pv 0) T.ckR MRaccept_define hr (by decide) pass0 (pa_cons (pv 2) pa_nil)))) pss_nil)
   (pss_cons (ps_if (pt_cmpR op_eq (pv 3) pe_str (nomark _)) (pss_one (ps_ret (pe_mo (pv 0) T.ckR MRaccept_end hr (by decide) pass0 (pa_cons (pv 2) pa_nil)))) pss_nil)
   (pss_cons (ps_if (pt_cmpR op_eq (pv 3) pe_str (nomark _)) (pss_one (ps_ret (pe_mo (pv 0) T.ckR MRaccept_else hr (by decide) pass0 (pa_cons (pv 2) pa_nil)))) pss_nil)
   (C8.pss_cut (ps_if (pt_cmpR (op_eqD hr.units) (pe_fld (pv 0) (by rfl)) (pe_lst pa_nil) (nomark _)) (pss_one (ps_fld (pv 0) pe_bl rfl)) pss_nil)
   (pss_cons (ps_if (pt_cmpR op_in_seq (pv 3) (C8.pe_gc (v:=.ref BLK) (by rfl) T.g_blocks) rfl) (pss_cons (ps_expr (pe_bm PySem.F.plainAttrs_list PySem.F.slot_list_append PySem.F.type_list_append mt_append (pe_fld (pv 0) (by rfl)) (pa_cons (pv 3) pa_nil)))
    (pss_one (ps_ret (pe_cmpR op_eq (pe_callB call_len_seq (by rfl) T.n_len (by decide +kernel) (pa_cons (pv 2) pa_nil)) pe_int (nomark _))))) pss_nil)
   (pss_cons (ps_if (pt_cmpR op_eq (pv 3) pe_str (nomark _)) (pss_one (ps_ret (pe_mo (pv 0) T.ckR MRaccept_take hr (by decide) pass0 (pa_cons (pv 2) pa_nil)))) pss_nil)
   (pss_one (ps_ret (pe_mo (pv 0) T.ckR MRaccept_simple hr (by decide) pass0 (pa_cons (pv 2) pa_nil))))))))))))),?_⟩
  walk_at "rd"
  refine ⟨by show 0≤sizeLine; decide,fun e0 he0=>?_⟩
  generalize hX:upd _ e0 _=H1
  obtain ⟨e1,h1⟩:=new_facts (TS:=TS) hX he0
  clear hX
  walk_at "rs"
  refine a_eqSL (xs:=ps) (ys:=[]) (SqL.of (show H1 p=_ from (by walk_at "t"))) (SqL.of h1) pok.strs strsOk_nil ?_
  walk_at "rd"
  refine ite2 (fun c=>?_) (fun c=>?_)
  ·have c1:ps=[]:=of_decide_eq_true c
   walk_at "rd"
   exact k2 (by unfold accLine; rw [if_pos c1]) _ (e1.mono (by simp))
  ·have hne:ps≠[]:=fun z=>c (decide_eq_true z)
   have hlen:0 < ps.length:=List.length_pos_iff.mpr hne
   have hps1:H1 p=some (.lst (ps.map V.str)):=(by walk_at "t")
   have ra1:RdAt K CR H1 R st qg qp qb qpl:=⟨dx,qd,ql,as,(by walk_at "t"),(by walk_at "t"),ga.ev e1,(by walk_at "t"),(by walk_at "t"),(by walk_at "t"),(by walk_at "t"),(by walk_at "t"),n1,n2⟩
   have hR1:H1 R=some (.ins CR dx (rdF qg qp qd qb ql qpl st.st)):=(by walk_at "t")
   have hb1:H1 qb=some (.lst (st.bl.map V.str)):=(by walk_at "t")
   -- how a method's answer goes on
   have go:∀ (acc:RS→Ps→Option RS) (H2:Hp) (s2:RS),Ev TS [R] H H2→RdAt K CR H2 R s2 qg qp qb qpl→RB s2 n→H2 p=some (.lst (ps.map V.str))→accLine st j ps=acc s2 ps→spAcc TS K CR acc [.ref R,.ref p] H2 Q E:=fun acc H2 s2 e ra2 rb2 hp2 ea =>
    ⟨R,p,s2,ps,qg,qp,qb,qpl,n,rfl,ra2,rb2,hn,hp2,pok,hne,np1,np2,fun s' es H' q' ev' ra' nn=>k1 s' (by rw [ea,es]) H' q' (Ev.trans (e.mono (L1:=[R,qg,qp,qb,qpl]) (by simp)) ev' ⟨.inl (by simp),.inl (by simp),.inl (by simp),.inl (by simp),.inl (by simp),trivial⟩) ra' (nn.imp id fun na=>Le.na na (Le.ev e (Le.refl _))),
     fun es H' ev'=>k2 (by rw [ea,es]) H' (Ev.trans (e.mono (L1:=[R,qg,qp,qb,qpl]) (by simp)) ev' ⟨.inl (by simp),.inl (by simp),.inl (by simp),.inl (by simp),.inl (by simp),trivial⟩)⟩
   walk_at "rd"
   refine a_ixS 0 hps1 hlen ?_
   walk_at "rd"
   have ms:∀ (acc:RS→Ps→Option RS),accLine st j ps=acc st ps→spAcc TS K CR acc [.ref R,.ref p] H1 Q E:=fun acc ea=>go acc H1 st (e1.mono (by simp)) ra1 rb hps1 ea
   refine ite2 (fun c1=>?_) (fun c1=>?_)
   ·have d1:j=0:=by rw [dec_int] at c1; have:=of_decide_eq_true c1; omega
    walk_at "rd"
    refine ⟨R,dx,_,rfl,hR1,m_lists,?_⟩
    walk_at "rd"
    exact ms _ (by unfold accLine; rw [if_neg hne,if_pos (.inl d1)])
   ·have d1:¬ j=0:=by rw [dec_int] at c1; intro z; exact c1 (decide_eq_true (by omega))
    have hnl:∀ (z:¬ (j=1∧p0 ps 0=("lists" : Str))),¬ (j=0∨j=1∧p0 ps 0=("lists" : Str)):=fun z y=>y.elim d1 z
    walk_at "rd"
    refine ite2 (fun c2=>?_) (fun c2=>?_)
    ·have d2:j=1:=by rw [dec_int] at c2; have:=of_decide_eq_true c2; omega
     walk_at "rd"
     rw [dec_str]
     refine ite2 (fun c3=>?_) (fun c3=>?_)
     ·walk_at "rd"
      refine ⟨R,dx,_,rfl,hR1,m_lists,?_⟩
      walk_at "rd"
      exact ms _ (by unfold accLine; rw [if_neg hne,if_pos (.inr ⟨d2,of_decide_eq_true c3⟩)])
     ·have nl:=hnl fun z=>c3 (decide_eq_true z.2)
      walk_at "rd"
      rw [dec_str]
      refine ite2 (fun c4=>?_) (fun c4=>?_)
      ·have w1:p0 ps 0=("define" : Str):=of_decide_eq_true c4
       walk_at "rd"
       refine ⟨R,dx,_,rfl,hR1,m_define,?_⟩
       walk_at "rd"
       exact ms _ (by unfold accLine; rw [if_neg hne,if_neg nl,if_pos w1])
      ·have w1:¬ p0 ps 0=("define" : Str):=fun z=>c4 (decide_eq_true z)
       walk_at "rd"
       rw [dec_str]
       refine ite2 (fun c5=>?_) (fun c5=>?_)
       ·have w2:p0 ps 0=("end" : Str):=of_decide_eq_true c5
        walk_at "rd"
        refine ⟨R,dx,_,rfl,hR1,m_end,?_⟩
        walk_at "rd"
        exact ms _ (by unfold accLine; rw [if_neg hne,if_neg nl,if_neg w1,if_pos w2])
       ·have w2:¬ p0 ps 0=("end" : Str):=fun z=>c5 (decide_eq_true z)
        walk_at "rd"
        rw [dec_str]
        refine ite2 (fun c6=>?_) (fun c6=>?_)
        ·have w3:p0 ps 0=("else" : Str):=of_decide_eq_true c6
         walk_at "rd"
         refine ⟨R,dx,_,rfl,hR1,m_else,?_⟩
         walk_at "rd"
         exact ms _ (by unfold accLine; rw [if_neg hne,if_neg nl,if_neg w1,if_neg w2,if_pos w3])
        ·have w3:¬ p0 ps 0=("else" : Str):=fun z=>c6 (decide_eq_true z)
         have el:accLine st j ps=(if p0 ps 0∈blkL then if ps.length=1 then some { begun st with bl:=(begun st).bl++[p0 ps 0] } else none else if p0 ps 0 = "take" then accTake (begun st) ps else if simB (begun st) ps=true then some (begun st) else none):=by
          unfold accLine
          rw [if_neg hne,if_neg nl,if_neg w1,if_neg w2,if_neg w3]
         walk_at "rd"
         refine ⟨fun σ' H'=>σ'=[some (.ref R),some (.int (j:Int)),some (.ref p),some (.str (p0 ps 0))]∧Ev TS [R] H H'∧RdAt K CR H' R (begun st) qg qp qb qpl∧H' p=some (.lst (ps.map V.str)),?_,?_⟩
         ·walk_at "rd"
          refine ⟨R,CR,dx,_,_,rfl,hR1,T.ckR,T.ra _ (by simp),l_blocks,?_⟩
          walk_at "rd"
          refine ⟨by show 0≤sizeLine; decide,fun e2 he2=>?_⟩
          generalize hX:upd _ e2 _=H2
          obtain ⟨e3,h2⟩:=new_facts (TS:=TS) hX he2
          clear hX
          walk_at "rs"
          refine a_eqSL (xs:=st.bl) (ys:=[]) (SqL.of (show H2 qb=_ from (by walk_at "t"))) (SqL.of h2) rb.sb strsOk_nil ?_
          walk_at "rd"
          have hR2:H2 R=some (.ins CR dx (rdF qg qp qd qb ql qpl st.st)):=(by walk_at "t")
          refine ite2 (fun c7=>?_) (fun c7=>?_)
          ·have eb:begun st={ st with st:=true }:=by unfold begun; rw [if_pos (of_decide_eq_true c7)]
           walk_at "rd"
           refine ⟨R,CR,dx,_,rfl,hR2,T.ckR,T.ra _ (by simp),(by show 7 < 1000; decide),?_⟩
           rw [p_started]
           generalize hX:upd _ R _=H3
           obtain ⟨e4,h3⟩:=setI_facts (TS:=TS) hX hR2
           clear hX
           walk_at "rs"
           refine ⟨rfl,Ev.trans (Ev.trans (e1.mono (L1:=[R]) (by simp)) e3 trivial) e4 ⟨.inl (by simp),trivial⟩,?_,(by walk_at "t")⟩
           rw [eb]
           exact ⟨dx,qd,ql,as,h3,(by walk_at "t"),((ga.ev e1).ev e3).ev e4,(by walk_at "t"),(by walk_at "t"),(by walk_at "t"),(by walk_at "t"),(by walk_at "t"),n1,n2⟩
          ·have eb:begun st=st:=by unfold begun; rw [if_neg fun z=>c7 (decide_eq_true z)]
           walk_at "rd"
           refine ⟨(Ev.trans e1 e3 trivial).mono (by simp),?_,(by walk_at "t")⟩
           rw [eb]
           exact ⟨dx,qd,ql,as,hR2,(by walk_at "t"),(ga.ev e1).ev e3,(by walk_at "t"),(by walk_at "t"),(by walk_at "t"),(by walk_at "t"),(by walk_at "t"),n1,n2⟩
         ·rintro σ' H2 ⟨rfl,E2,ra2,hps2⟩
          obtain ⟨dx2,qd2,ql2,as2,hR2,hg2,ga2,hp2,hd2,hb2,hl2,hpl2,_,_⟩:=_root_.id ra2
          have rb2:=rb.begun
          walk_at "rd"
          refine a_inS blkL (.inr (T.blocks _)) rfl ?_
          walk_at "rd"
          refine ite2 (fun c8=>?_) (fun c8=>?_)
          ·have w4:p0 ps 0∈blkL:=of_decide_eq_true c8
           rw [if_pos w4] at el
           walk_at "rd"
           refine ⟨R,CR,dx2,_,_,rfl,hR2,T.ckR,T.ra _ (by simp),l_blocks,?_⟩
           refine ⟨.inl ⟨rfl,_,SqL.of hb2⟩,?_⟩
           walk_at "rd"
           refine a_append (TS:=TS) hb2 (by rw [List.length_map]; exact lt_line (by have:=rb2.bl; omega)) fun H3 e3 h3=>?_
           walk_at "rd"
           have nep:NeH H2 p qb:=np2
           have hps3:H3 p=some (.lst (ps.map V.str)):=(by walk_at "t")
           refine ⟨p,_,rfl,.inl (SqL.of hps3),?_⟩
           walk_at "rd"
           rw [dec_len (ps:=ps) (i:=1) (k:=1) rfl]
           have E3:Ev TS [R,qg,qp,qb,qpl] H H3:=Ev.trans (E2.mono (L1:=[R,qg,qp,qb,qpl]) (by simp)) e3 ⟨.inl (by simp),trivial⟩
           by_cases h1l:ps.length=1
           ·rw [decide_eq_true h1l]
            rw [if_pos h1l] at el
            refine k1 _ el H3 qpl E3 ⟨dx2,qd2,ql2,as2,?_,?_,ga2.ev e3,?_,?_,?_,?_,?_,n1,n2⟩ (.inl rfl)
            ·exact ev_ins e3 hR2 ⟨neIL (isI.of hR2) (isL.of hb2),trivial⟩
            ·exact ev_lst e3 hg2 ⟨n1,trivial⟩
            ·exact ev_dK e3 hp2 ⟨neDL (isDk.of hp2) (isL.of hb2),trivial⟩
            ·exact ev_tup e3 hd2
            ·rw [h3,List.map_append]; rfl
            ·exact ev_sqT e3 hl2
            ·exact ev_dK e3 hpl2 ⟨neDL (isDk.of hpl2) (isL.of hb2),trivial⟩
           ·rw [decide_eq_false h1l]
            rw [if_neg h1l] at el
            exact k2 el H3 E3
          ·have w4:¬ p0 ps 0∈blkL:=fun z=>c8 (decide_eq_true z)
           rw [if_neg w4] at el
           walk_at "rd"
           rw [dec_str]
           refine ite2 (fun c9=>?_) (fun c9=>?_)
           ·rw [if_pos (show p0 ps 0=("take" : Str) from of_decide_eq_true c9)] at el
            walk_at "rd"
            refine ⟨R,dx2,_,rfl,hR2,m_take,?_⟩
            walk_at "rd"
            exact go _ H2 (begun st) E2 ra2 rb2 hps2 el
           ·rw [if_neg (show ¬ p0 ps 0=("take" : Str) from fun z=>c9 (decide_eq_true z))] at el
            walk_at "rd"
            refine ⟨R,dx2,_,rfl,hR2,m_simple,?_⟩
            walk_at "rd"
            exact go _ H2 (begun st) E2 ra2 rb2 hps2 el
    ·have d2:¬ j=1:=by rw [dec_int] at c2; intro z; exact c2 (decide_eq_true (by omega))
     have nl:=hnl fun z=>d2 z.1
     walk_at "rd"
     rw [dec_str]
     refine ite2 (fun c4=>?_) (fun c4=>?_)
     ·have w1:p0 ps 0=("define" : Str):=of_decide_eq_true c4
      walk_at "rd"
      refine ⟨R,dx,_,rfl,hR1,m_define,?_⟩
      walk_at "rd"
      exact ms _ (by unfold accLine; rw [if_neg hne,if_neg nl,if_pos w1])
     ·have w1:¬ p0 ps 0=("define" : Str):=fun z=>c4 (decide_eq_true z)
      walk_at "rd"
      rw [dec_str]
      refine ite2 (fun c5=>?_) (fun c5=>?_)
      ·have w2:p0 ps 0=("end" : Str):=of_decide_eq_true c5
       walk_at "rd"
       refine ⟨R,dx,_,rfl,hR1,m_end,?_⟩
       walk_at "rd"
       exact ms _ (by unfold accLine; rw [if_neg hne,if_neg nl,if_neg w1,if_pos w2])
      ·have w2:¬ p0 ps 0=("end" : Str):=fun z=>c5 (decide_eq_true z)
       walk_at "rd"
       rw [dec_str]
       refine ite2 (fun c6=>?_) (fun c6=>?_)
       ·have w3:p0 ps 0=("else" : Str):=of_decide_eq_true c6
        walk_at "rd"
        refine ⟨R,dx,_,rfl,hR1,m_else,?_⟩
        walk_at "rd"
        exact ms _ (by unfold accLine; rw [if_neg hne,if_neg nl,if_neg w1,if_neg w2,if_pos w3])
       ·have w3:¬ p0 ps 0=("else" : Str):=fun z=>c6 (decide_eq_true z)
        have el:accLine st j ps=(if p0 ps 0∈blkL then if ps.length=1 then some { begun st with bl:=(begun st).bl++[p0 ps 0] } else none else if p0 ps 0 = "take" then accTake (begun st) ps else if simB (begun st) ps=true then some (begun st) else none):=by
         unfold accLine
         rw [if_neg hne,if_neg nl,if_neg w1,if_neg w2,if_neg w3]
        walk_at "rd"
        refine ⟨fun σ' H'=>σ'=[some (.ref R),some (.int (j:Int)),some (.ref p),some (.str (p0 ps 0))]∧Ev TS [R] H H'∧RdAt K CR H' R (begun st) qg qp qb qpl∧H' p=some (.lst (ps.map V.str)),?_,?_⟩
        ·walk_at "rd"
         refine ⟨R,CR,dx,_,_,rfl,hR1,T.ckR,T.ra _ (by simp),l_blocks,?_⟩
         walk_at "rd"
         refine ⟨by show 0≤sizeLine; decide,fun e2 he2=>?_⟩
         generalize hX:upd _ e2 _=H2
         obtain ⟨e3,h2⟩:=new_facts (TS:=TS) hX he2
         clear hX
         walk_at "rs"
         refine a_eqSL (xs:=st.bl) (ys:=[]) (SqL.of (show H2 qb=_ from (by walk_at "t"))) (SqL.of h2) rb.sb strsOk_nil ?_
         walk_at "rd"
         have hR2:H2 R=some (.ins CR dx (rdF qg qp qd qb ql qpl st.st)):=(by walk_at "t")
         refine ite2 (fun c7=>?_) (fun c7=>?_)
         ·have eb:begun st={ st with st:=true }:=by unfold begun; rw [if_pos (of_decide_eq_true c7)]
          walk_at "rd"
          refine ⟨R,CR,dx,_,rfl,hR2,T.ckR,T.ra _ (by simp),(by show 7 < 1000; decide),?_⟩
          rw [p_started]
          generalize hX:upd _ R _=H3
          obtain ⟨e4,h3⟩:=setI_facts (TS:=TS) hX hR2
          clear hX
          walk_at "rs"
          refine ⟨rfl,Ev.trans (Ev.trans (e1.mono (L1:=[R]) (by simp)) e3 trivial) e4 ⟨.inl (by simp),trivial⟩,?_,(by walk_at "t")⟩
          rw [eb]
          exact ⟨dx,qd,ql,as,h3,(by walk_at "t"),((ga.ev e1).ev e3).ev e4,(by walk_at "t"),(by walk_at "t"),(by walk_at "t"),(by walk_at "t"),(by walk_at "t"),n1,n2⟩
         ·have eb:begun st=st:=by unfold begun; rw [if_neg fun z=>c7 (decide_eq_true z)]
          walk_at "rd"
          refine ⟨(Ev.trans e1 e3 trivial).mono (by simp),?_,(by walk_at "t")⟩
          rw [eb]
          exact ⟨dx,qd,ql,as,hR2,(by walk_at "t"),(ga.ev e1).ev e3,(by walk_at "t"),(by walk_at "t"),(by walk_at "t"),(by walk_at "t"),(by walk_at "t"),n1,n2⟩
        ·rintro σ' H2 ⟨rfl,E2,ra2,hps2⟩
         obtain ⟨dx2,qd2,ql2,as2,hR2,hg2,ga2,hp2,hd2,hb2,hl2,hpl2,_,_⟩:=_root_.id ra2
         have rb2:=rb.begun
         walk_at "rd"
         refine a_inS blkL (.inr (T.blocks _)) rfl ?_
         walk_at "rd"
         refine ite2 (fun c8=>?_) (fun c8=>?_)
         ·have w4:p0 ps 0∈blkL:=of_decide_eq_true c8
          rw [if_pos w4] at el
          walk_at "rd"
          refine ⟨R,CR,dx2,_,_,rfl,hR2,T.ckR,T.ra _ (by simp),l_blocks,?_⟩
          refine ⟨.inl ⟨rfl,_,SqL.of hb2⟩,?_⟩
          walk_at "rd"
          refine a_append (TS:=TS) hb2 (by rw [List.length_map]; exact lt_line (by have:=rb2.bl; omega)) fun H3 e3 h3=>?_
          walk_at "rd"
          have nep:NeH H2 p qb:=np2
          have hps3:H3 p=some (.lst (ps.map V.str)):=(by walk_at "t")
          refine ⟨p,_,rfl,.inl (SqL.of hps3),?_⟩
          walk_at "rd"
          rw [dec_len (ps:=ps) (i:=1) (k:=1) rfl]
          have E3:Ev TS [R,qg,qp,qb,qpl] H H3:=Ev.trans (E2.mono (L1:=[R,qg,qp,qb,qpl]) (by simp)) e3 ⟨.inl (by simp),trivial⟩
          by_cases h1l:ps.length=1
          ·rw [decide_eq_true h1l]
           rw [if_pos h1l] at el
           refine k1 _ el H3 qpl E3 ⟨dx2,qd2,ql2,as2,?_,?_,ga2.ev e3,?_,?_,?_,?_,?_,n1,n2⟩ (.inl rfl)
           ·exact ev_ins e3 hR2 ⟨neIL (isI.of hR2) (isL.of hb2),trivial⟩
           ·exact ev_lst e3 hg2 ⟨n1,trivial⟩
           ·exact ev_dK e3 hp2 ⟨neDL (isDk.of hp2) (isL.of hb2),trivial⟩
           ·exact ev_tup e3 hd2
           ·rw [h3,List.map_append]; rfl
           ·exact ev_sqT e3 hl2
           ·exact ev_dK e3 hpl2 ⟨neDL (isDk.of hpl2) (isL.of hb2),trivial⟩
          ·rw [decide_eq_false h1l]
           rw [if_neg h1l] at el
           exact k2 el H3 E3
         ·have w4:¬ p0 ps 0∈blkL:=fun z=>c8 (decide_eq_true z)
          rw [if_neg w4] at el
          walk_at "rd"
          rw [dec_str]
          refine ite2 (fun c9=>?_) (fun c9=>?_)
          ·rw [if_pos (show p0 ps 0=("take" : Str) from of_decide_eq_true c9)] at el
           walk_at "rd"
           refine ⟨R,dx2,_,rfl,hR2,m_take,?_⟩
           walk_at "rd"
           exact go _ H2 (begun st) E2 ra2 rb2 hps2 el
          ·rw [if_neg (show ¬ p0 ps 0=("take" : Str) from fun z=>c9 (decide_eq_true z))] at el
           walk_at "rd"
           refine ⟨R,dx2,_,rfl,hR2,m_simple,?_⟩
           walk_at "rd"
           exact go _ H2 (begun st) E2 ra2 rb2 hps2 el
end
theorem app_len (a b:Str):(a++b).length=a.length+b.length:=by
 show (a.cps++b.cps).size=_
 rw [Array.size_append]
 rfl
theorem app_ok {a b:Str}:PyData.strOk (a++b)=(PyData.strOk a && PyData.strOk b):=by
 show (a.cps++b.cps).all _=_
 rw [Array.all_append]
 rfl
theorem join_sum (y:Str):∀ l:List Str,(l.map (·.length)).sum≤(Str.join y l).length
 | []=>Nat.zero_le _
 | [x]=>by simp [Str.join]
 | x :: z :: r=>by
  show x.length+((z :: r).map (·.length)).sum≤(x++y++Str.join y (z :: r)).length
  have:=join_sum y (z :: r)
  rw [app_len,app_len]
  omega
theorem join_cnt {y:Str} (hy:1≤y.length):∀ l:List Str,l.length≤(Str.join y l).length+1
 | []=>Nat.zero_le _
 | [x]=>by simp
 | x :: z :: r=>by
  show (z :: r).length+1≤(x++y++Str.join y (z :: r)).length+1
  have:=join_cnt hy (z :: r)
  rw [app_len,app_len]
  omega
theorem join_ok {y:Str}:∀ {l:List Str},PyData.strOk (Str.join y l)=true→∀ z∈l,PyData.strOk z=true
 | [x],h,z,hz=>by rw [List.mem_singleton.mp hz]; exact h
 | x :: w :: r,h,z,hz=>by
  have h':PyData.strOk (x++y++Str.join y (w :: r))=true:=h
  rw [app_ok,app_ok,Bool.and_eq_true,Bool.and_eq_true] at h'
  rcases List.mem_cons.mp hz with e | e
  ·rw [e]; exact h'.1.1
  ·exact join_ok h'.2 z e
theorem split_back (x y:Str):Str.join y (Txt.split x y)=x:=StrLaws.join_split x y
theorem sum_mem:∀ {l:List Str} {z:Str},z∈l→z.length≤(l.map (·.length)).sum
 | x :: r,z,h=>by
  rw [List.map_cons,List.sum_cons]
  rcases List.mem_cons.mp h with e | e
  ·rw [e]; omega
  ·have:=sum_mem e; omega
theorem sum_filter (p:Str→Bool):∀ l:List Str,((l.filter p).map (·.length)).sum≤(l.map (·.length)).sum
 | []=>Nat.le_refl _
 | x :: r=>by
  have:=sum_filter p r
  rw [List.filter_cons]
  split
  ·rw [List.map_cons,List.sum_cons,List.map_cons,List.sum_cons]; omega
  ·rw [List.map_cons,List.sum_cons]; omega
def sp1:Str:=" "
def nl1:Str:="\n"
theorem split_sum (x y:Str):((Txt.split x y).map (·.length)).sum≤x.length:=by
 have:=join_sum y (Txt.split x y)
 rw [split_back] at this
 exact this
theorem split_cnt {x y:Str} (hy:1≤y.length):(Txt.split x y).length≤x.length+1:=by
 have:=join_cnt hy (Txt.split x y)
 rw [split_back] at this
 exact this
theorem split_ok {x y:Str} (h:PyData.strOk x=true):∀ z∈Txt.split x y,PyData.strOk z=true:=by
 rw [← split_back x y] at h
 exact join_ok h
theorem split_le {x y z:Str} (h:z∈Txt.split x y):z.length≤x.length:=Nat.le_trans (sum_mem h) (split_sum x y)
def partsOf (l:Str):Ps:=(Txt.split l sp1).filter fun z=>!decide (z=(Str.ofString ""))
def linesOf (t:Str):List Ps:=(Txt.split t nl1).map partsOf
theorem sp1_len:1≤sp1.length:=by decide +kernel
theorem nl1_len:1≤nl1.length:=by decide +kernel
theorem cnt_sum:∀ {l:List Str},(∀ z∈l,1≤z.length)→l.length≤(l.map (·.length)).sum
 | [],_=>Nat.le_refl _
 | x :: r,h=>by
  have:=cnt_sum (l:=r) fun z hz=>h z (List.mem_cons_of_mem _ hz)
  have h1:=h x List.mem_cons_self
  rw [List.length_cons,List.map_cons,List.sum_cons]
  omega
theorem len_pos {z:Str} (h:¬ z=Str.ofString ""):1≤z.length:=by
 obtain ⟨c⟩:=z
 show 1≤c.size
 rcases Nat.eq_zero_or_pos c.size with e | e
 ·exfalso
  have:c = #[]:=Array.eq_empty_of_size_eq_zero e
  subst this
  exact h (by decide +kernel)
 ·exact e
theorem parts_sum {l:Str} (h:TOk l):((partsOf l).map (·.length)).sum≤20000:=by
 have h1:=sum_filter (fun z=>!decide (z=(Str.ofString ""))) (Txt.split l sp1)
 have h2:=split_sum l sp1
 have:=h.1
 unfold partsOf
 omega
theorem parts_ok {l:Str} (h:TOk l):PsOk (partsOf l):=by
 refine ⟨fun z hz=>?_,?_⟩
 ·have hz':=(List.mem_filter.mp hz).1
  have:=split_le hz'
  exact ⟨by have:=h.1; omega,split_ok h.2 z hz'⟩
 ·have h1:=cnt_sum (l:=partsOf l) fun z hz=>len_pos (by have:=(List.mem_filter.mp hz).2; simpa using this)
  have:=parts_sum h
  omega
theorem line_ok {t:Str} (h:TOk t):∀ l∈Txt.split t nl1,TOk l:=fun l hl=>⟨by have:=split_le hl; have:=h.1; omega,split_ok h.2 l hl⟩
def runE (s:RS) (k:Nat):List Ps→Nat ⊕ (List Ps × RS)
 | []=>.inr ([],s)
 | ps :: r=>match accLine s k ps with
  | none=>.inl k
  | some s'=>match runE s' (k+1) r with
   | .inl e=>.inl e
   | .inr q=>.inr (s'.ls :: q.1,q.2)
def readE (lls:List Ps):Nat ⊕ (List Ps × RS):=match runE RS.init 0 lls with
 | .inl e=>.inl e
 | .inr q=>if q.2.bl=[] then .inr q else .inl lls.length
theorem runE_bad:∀ {l:List Ps} {s:RS} {k i:Nat} {q:List Ps × RS} {ps:Ps},runL s k (l.take i)=some q→l[i]? = some ps→accLine q.2 (k+i) ps=none→runE s k l=.inl (k+i)
 | [],s,k,i,q,ps,_,h,_=>by simp at h
 | x :: r,s,k,0,q,ps,h1,h2,h3=>by
  obtain rfl:([],s)=q:=Option.some.inj h1
  obtain rfl:x=ps:=Option.some.inj h2
  show (match accLine s k x with | none=>_ | some s'=>_:Nat ⊕ (List Ps × RS))=_
  have h3':accLine s k x=none:=h3
  rw [h3']
  rfl
 | x :: r,s,k,i+1,q,ps,h1,h2,h3=>by
  have h1':(match accLine s k x with | none=>none | some s'=>match runL s' (k+1) (r.take i) with | none=>none | some (sc,s2)=>some (s'.ls :: sc,s2):Option (List Ps × RS))=some q:=h1
  show (match accLine s k x with | none=>Sum.inl k | some s'=>match runE s' (k+1) r with | .inl e=>.inl e | .inr q=>.inr (s'.ls :: q.1,q.2):Nat ⊕ (List Ps × RS))=_
  cases ea:accLine s k x with
  | none=>rw [ea] at h1'; cases h1'
  | some s' =>
   rw [ea] at h1'
   simp only at h1' ⊢
   cases er:runL s' (k+1) (r.take i) with
   | none=>rw [er] at h1'; cases h1'
   | some q2 =>
    rw [er] at h1'
    obtain ⟨sc,s2⟩:=q2
    have eq:=Option.some.inj h1'
    have ih:=runE_bad (i:=i) er (by simpa using h2) (by rw [← eq] at h3; rw [show k+1+i=k+(i+1) by omega]; exact h3)
    rw [ih]
    show Sum.inl (k+1+i)=_
    rw [show k+1+i=k+(i+1) by omega]
theorem runE_good:∀ {l:List Ps} {s:RS} {k:Nat} {q:List Ps × RS},runL s k l=some q→runE s k l=.inr q
 | [],s,k,q,h=>by
  obtain rfl:([],s)=q:=Option.some.inj h
  rfl
 | x :: r,s,k,q,h=>by
  have h1':(match accLine s k x with | none=>none | some s'=>match runL s' (k+1) r with | none=>none | some (sc,s2)=>some (s'.ls :: sc,s2):Option (List Ps × RS))=some q:=h
  show (match accLine s k x with | none=>Sum.inl k | some s'=>match runE s' (k+1) r with | .inl e=>.inl e | .inr q=>.inr (s'.ls :: q.1,q.2):Nat ⊕ (List Ps × RS))=_
  cases ea:accLine s k x with
  | none=>rw [ea] at h1'; cases h1'
  | some s' =>
   rw [ea] at h1'
   simp only at h1' ⊢
   cases er:runL s' (k+1) r with
   | none=>rw [er] at h1'; cases h1'
   | some q2 =>
    rw [er] at h1'
    obtain ⟨sc,s2⟩:=q2
    rw [runE_good er]
    exact congrArg Sum.inr (Option.some.inj h1')
theorem runL_take {l:List Ps} {s:RS} {k i:Nat} {q:List Ps × RS} {ps:Ps} {s':RS} (h:runL s k (l.take i)=some q) (hi:l[i]? = some ps) (ha:accLine q.2 (k+i) ps=some s'):runL s k (l.take (i+1))=some (q.1++[s'.ls],s'):=by
 have hlt:=(List.getElem?_eq_some_iff.mp hi).1
 rw [List.take_add_one,hi]
 show runL s k (l.take i++[ps])=_
 rw [runL_snoc,h]
 show (accLine q.2 (k+(l.take i).length) ps).map _=_
 rw [List.length_take,Nat.min_eq_left (Nat.le_of_lt hlt),ha]
 rfl
theorem strOk_c (z:Str) (h:z∈blkL):PyData.strOk z=true:=by
 have k:∀ z∈blkL,PyData.strOk z=true:=by decide +kernel
 exact k z h
theorem acc_RB {s s':RS} {n k:Nat} {ps:Ps} (h:RB s n) (e:accLine s k ps=some s'):RB s' (n+1):=by
 have hb:=h.begun
 obtain ⟨a1,a2,a3,a4,a5,a6,a7⟩:=h
 obtain ⟨b1,b2,b3,b4,b5,b6,b7⟩:=hb
 have A1:=Nat.le_succ_of_le a1
 have A3:=Nat.le_succ_of_le a3
 have A4:=Nat.le_succ_of_le a4
 have A5:=Nat.le_succ_of_le a5
 have A6:s.ls.length≤3 * (n+1):=by omega
 have B1:=Nat.le_succ_of_le b1
 have B3:=Nat.le_succ_of_le b3
 have B4:=Nat.le_succ_of_le b4
 have B5:=Nat.le_succ_of_le b5
 have B6:(begun s).ls.length≤3 * (n+1):=by omega
 unfold accLine at e
 split at e
 ·cases e
 ·split at e
  ·unfold accLists at e
   split at e
   ·cases e
   ·split at e
    ·cases e
    ·obtain rfl:=Option.some.inj e
     rename_i h1 _
     have h3:(ps.drop 1).length≤3:=by
      simp only [Bool.or_eq_true,Bool.not_eq_true',decide_eq_false_iff_not,not_or,Classical.not_not] at h1
      exact h1.2.1.2
     refine ⟨?_,fun g hg=>?_,A3,A4,A5,?_,a7⟩
     ·show (s.gs++[ps.drop 1]).length≤n+1
      rw [List.length_append]
      exact Nat.succ_le_succ a1
     ·rcases List.mem_append.mp hg with z | z
      ·exact a2 g z
      ·rw [List.mem_singleton.mp z]; exact h3
     ·show (s.ls++ps.drop 1).length≤3 * (n+1)
      rw [List.length_append]
      omega
  ·split at e
   ·unfold accDefine at e
    split at e
    ·cases e
    ·split at e
     ·cases e
     ·obtain rfl:=Option.some.inj e
      rename_i h1 _
      have h3:ps.length≤5:=by
       simp only [Bool.or_eq_true,Bool.not_eq_true',decide_eq_false_iff_not,not_or,Classical.not_not] at h1
       exact h1.2.2.2
      refine ⟨A1,a2,A3,?_,Nat.zero_le _,?_,fun z hz=>?_⟩
      ·show (s.bl++[("define" : Str)]).length≤n+1
       rw [List.length_append]
       exact Nat.succ_le_succ a4
      ·show (ps.drop 2).length≤3 * (n+1)
       rw [List.length_drop]
       omega
      ·rcases List.mem_append.mp hz with z1 | z1
       ·exact a7 z z1
       ·rw [List.mem_singleton.mp z1]; decide +kernel
   ·split at e
    ·unfold accEnd at e
     split at e
     ·cases e
     ·have D4:s.bl.dropLast.length≤n+1:=by rw [List.length_dropLast]; omega
      split at e
      ·obtain rfl:=Option.some.inj e
       refine ⟨A1,a2,?_,D4,Nat.zero_le _,?_,fun z hz=>a7 z ((List.dropLast_sublist _).subset hz)⟩
       ·have:=pk_length s.prs s.df.1 s.df.2
        show (pk s.prs s.df.1 s.df.2).length≤_
        omega
       ·have:=flat_le a2 a1
        show s.gs.flatten.length≤_
        omega
      ·obtain rfl:=Option.some.inj e
       exact ⟨A1,a2,A3,D4,A5,A6,fun z hz=>a7 z ((List.dropLast_sublist _).subset hz)⟩
    ·split at e
     ·unfold accElse at e
      split at e
      ·cases e
      ·obtain rfl:=Option.some.inj e
       refine ⟨A1,a2,A3,?_,A5,A6,fun z hz=>?_⟩
       ·show (s.bl.set (s.bl.length - 1) "else").length≤n+1
        rw [List.length_set]
        exact A4
       ·rcases List.mem_or_eq_of_mem_set hz with z1 | z1
        ·exact a7 z z1
        ·rw [z1]; decide +kernel
     ·split at e
      ·rename_i hbk
       split at e
       ·obtain rfl:=Option.some.inj e
        refine ⟨B1,b2,B3,?_,B5,B6,fun z hz=>?_⟩
        ·show ((begun s).bl++[p0 ps 0]).length≤n+1
         rw [List.length_append]
         exact Nat.succ_le_succ b4
        ·rcases List.mem_append.mp hz with z1 | z1
         ·exact b7 z z1
         ·rw [List.mem_singleton.mp z1]; exact strOk_c _ hbk
       ·cases e
      ·split at e
       ·unfold accTake at e
        split at e
        ·cases e
        ·split at e
         ·cases e
         ·obtain rfl:=Option.some.inj e
          refine ⟨B1,b2,B3,B4,?_,B6,b7⟩
          have:=pk_length (begun s).pl (p0 ps 1) (sortOf (p0 ps 2))
          show (pk (begun s).pl (p0 ps 1) (sortOf (p0 ps 2))).length≤_
          omega
       ·split at e
        ·obtain rfl:=Option.some.inj e
         exact ⟨B1,b2,B3,B4,B5,B6,b7⟩
        ·cases e
theorem RB.init:RB RS.init 0:=⟨Nat.le_refl _,(fun _ z=>nomatch z),Nat.le_refl _,Nat.le_refl _,Nat.le_refl _,Nat.le_refl _,(fun _ z=>nomatch z)⟩
theorem runL_len:∀ {l:List Ps} {s:RS} {k:Nat} {q:List Ps × RS},runL s k l=some q→q.1.length=l.length
 | [],s,k,q,h=>by
  obtain rfl:([],s)=q:=Option.some.inj h
  rfl
 | x :: r,s,k,q,e=>by
  have h1':(match accLine s k x with | none=>none | some s'=>match runL s' (k+1) r with | none=>none | some (sc,s2)=>some (s'.ls :: sc,s2):Option (List Ps × RS))=some q:=e
  cases ea:accLine s k x with
  | none=>rw [ea] at h1'; cases h1'
  | some s' =>
   rw [ea] at h1'
   simp only at h1'
   cases er:runL s' (k+1) r with
   | none=>rw [er] at h1'; cases h1'
   | some q2 =>
    rw [er] at h1'
    obtain ⟨sc,s2⟩:=q2
    obtain rfl:=Option.some.inj h1'
    exact congrArg Nat.succ (runL_len er)
theorem runL_RB:∀ {l:List Ps} {s:RS} {k n:Nat} {q:List Ps × RS},RB s n→runL s k l=some q→RB q.2 (n+l.length)
 | [],s,k,n,q,h,e=>by
  obtain rfl:([],s)=q:=Option.some.inj e
  exact h
 | x :: r,s,k,n,q,h,e=>by
  have h1':(match accLine s k x with | none=>none | some s'=>match runL s' (k+1) r with | none=>none | some (sc,s2)=>some (s'.ls :: sc,s2):Option (List Ps × RS))=some q:=e
  cases ea:accLine s k x with
  | none=>rw [ea] at h1'; cases h1'
  | some s' =>
   rw [ea] at h1'
   simp only at h1'
   cases er:runL s' (k+1) r with
   | none=>rw [er] at h1'; cases h1'
   | some q2 =>
    rw [er] at h1'
    obtain ⟨sc,s2⟩:=q2
    obtain rfl:=Option.some.inj h1'
    have:=runL_RB (acc_RB h ea) er
    rw [List.length_cons,show n+(r.length+1)=n+1+r.length by omega]
    exact this
structure Ren (σ:Str→Str):Prop where
 inj:∀ x y,σ x=σ y→x=y
 w:∀ x,wordB (σ x)=wordB x
 fx:∀ x,wordB x=false→σ x=x
section
variable {σ:Str→Str}
theorem Ren.lit (h:Ren σ) {c:Str} (hc:wordB c=false) (x:Str):(σ x=c)↔(x=c):=by
 constructor
 ·intro e
  exact h.inj x c (by rw [e,h.fx c hc])
 ·intro e
  rw [e,h.fx c hc]
theorem Ren.dlit (h:Ren σ) {c:Str} (hc:wordB c=false) (x:Str):decide (σ x=c)=decide (x=c):=decide_eq_decide.mpr (h.lit hc x)
theorem Ren.emp (h:Ren σ):σ Str.empty=Str.empty:=h.fx _ (by decide +kernel)
theorem Ren.p0 (h:Ren σ) (ps:Ps) (i:Nat):MV.p0 (ps.map σ) i=σ (MV.p0 ps i):=by
 unfold MV.p0
 rw [List.getD_eq_getElem?_getD,List.getD_eq_getElem?_getD,List.getElem?_map]
 cases ps[i]? with
 | none=>exact h.emp.symm
 | some x=>rfl
theorem Ren.mem (h:Ren σ) (x:Str) (l:Ps):(σ x∈l.map σ)↔x∈l:=by
 constructor
 ·intro m
  obtain ⟨y,hy,e⟩:=List.mem_map.mp m
  rw [← h.inj y x e]
  exact hy
 ·exact fun m=>List.mem_map.mpr ⟨x,m,rfl⟩
theorem Ren.dmem (h:Ren σ) (x:Str) (l:Ps):decide (σ x∈l.map σ)=decide (x∈l):=decide_eq_decide.mpr (h.mem x l)
theorem Ren.lits (h:Ren σ) {l:List Str} (hl:∀ c∈l,wordB c=false) (x:Str):(σ x∈l)↔x∈l:=by
 constructor
 ·intro m
  have:=(h.lit (hl _ m) x).mp rfl
  rw [this]
  exact m
 ·intro m
  rw [h.fx x (hl x m)]
  exact m
theorem Ren.dlits (h:Ren σ) {l:List Str} (hl:∀ c∈l,wordB c=false) (x:Str):decide (σ x∈l)=decide (x∈l):=decide_eq_decide.mpr (h.lits hl x)
theorem Ren.nil (ps:Ps):decide (ps.map σ=[])=decide (ps=[]):=decide_eq_decide.mpr List.map_eq_nil_iff
theorem Ren.one (h:Ren σ) {c:Str} (hc:wordB c=false) (ps:Ps):decide (ps.map σ=[c])=decide (ps=[c]):=by
 refine decide_eq_decide.mpr ?_
 match ps with
 | []=>exact ⟨(fun e=>by cases e),(fun e=>by cases e)⟩
 | [x] =>
  constructor
  ·intro e
   have:σ x=c:=by injection e
   rw [(h.lit hc x).mp this]
  ·intro e
   have:x=c:=by injection e
   show [σ x]=[c]
   rw [(h.lit hc x).mpr this]
 | x :: y :: r=>exact ⟨(fun e=>by cases e),(fun e=>by cases e)⟩
theorem Ren.nodup (h:Ren σ) (ps:Ps):decide (ps.map σ).Nodup=decide ps.Nodup:=by
 refine decide_eq_decide.mpr ⟨fun n=>?_,fun n=>?_⟩
 ·exact (List.pairwise_map.mp n).imp fun hab e=>hab (by rw [e])
 ·exact List.Pairwise.map σ (fun a b hab e=>hab (h.inj a b e)) n
theorem Ren.wordsB (h:Ren σ) (ps:Ps):MV.wordsB (ps.map σ)=MV.wordsB ps:=by
 unfold MV.wordsB
 rw [List.all_map,h.nodup]
 congr 1
 refine congrArg (fun f=>List.all ps f) (funext fun x=>?_)
 exact h.w x
theorem word_nml {x:Str} (h:wordB x=true):nmlB x=false:=by
 unfold wordB at h
 simp only [Bool.and_eq_true,decide_eq_true_eq,List.all_eq_true] at h
 obtain ⟨⟨h1,_⟩,_,h3⟩:=h
 cases e:nmlB x with
 | false=>rfl
 | true =>
  exfalso
  unfold nmlB at e
  simp only [Bool.and_eq_true,decide_eq_true_eq,List.all_eq_true] at e
  obtain ⟨_,e2,_⟩:=e
  cases ec:x.cps.toList with
  | nil =>
   have:x.cps.toList.length=0:=by rw [ec]; rfl
   rw [Array.length_toList] at this
   have h1:1≤x.cps.size:=h1
   omega
  | cons c r =>
   have m:c∈x.cps.toList:=by rw [ec]; exact .head _
   have a1:=h3 c m
   have a2:=e2 c m
   have key:∀ c∈LET.cps.toList,c∉DIG.cps.toList:=by decide +kernel
   exact key c a1 a2
theorem Ren.nml (h:Ren σ) (x:Str):nmlB (σ x)=nmlB x:=by
 cases e:wordB x with
 | false=>rw [h.fx x e]
 | true=>rw [word_nml e,word_nml (by rw [h.w]; exact e)]
theorem sign_nw:∀ c∈signL,wordB c=false:=by decide +kernel
theorem blk_nw:∀ c∈blkL,wordB c=false:=by decide +kernel
theorem kept_nw:∀ c∈keptL,wordB c=false:=by decide +kernel
theorem Ren.testB (h:Ren σ) (ps:Ps):MV.testB (ps.map σ)=MV.testB ps:=by
 unfold MV.testB
 rw [List.length_map,show (ps.map σ).getD 0 Str.empty=σ (ps.getD 0 Str.empty) from h.p0 ps 0,show (ps.map σ).getD 1 Str.empty=σ (ps.getD 1 Str.empty) from h.p0 ps 1,h.dlits sign_nw,h.nml]
theorem ite_iff {α:Sort _} {p q:Prop} [Decidable p] [Decidable q] {a b:α} (h:p↔q):(if p then a else b)=if q then a else b:=by
 by_cases hp:p
 ·rw [if_pos hp,if_pos (h.mp hp)]
 ·rw [if_neg hp,if_neg fun z=>hp (h.mpr z)]
theorem Ren.restB (h:Ren σ) (w:Str) (r:Ps):MV.restB (σ w) (r.map σ)=MV.restB w r:=by
 unfold MV.restB
 rw [ite_iff (h.lit (c:="order") (by decide +kernel) w),ite_iff (h.lit (c:="keep") (by decide +kernel) w),ite_iff (h.lit (c:="turn") (by decide +kernel) w),ite_iff (h.lit (c:="new") (by decide +kernel) w),Ren.nil,h.one (c:="down") (by decide +kernel),h.one (c:="front") (by decide +kernel),h.one (c:="back") (by decide +kernel),h.one (c:="any") (by decide +kernel),h.testB,h.dlit (c:="spot") (by decide +kernel)]
theorem Ren.sortOf (h:Ren σ) (w:Str):MV.sortOf (σ w)=MV.sortOf w:=by
 unfold MV.sortOf
 rw [ite_iff (h.lit (c:="spot") (by decide +kernel) w)]
def reK {α:Type} (σ:Str→Str) (d:List (Str × α)):List (Str × α):=d.map fun p=>(σ p.1,p.2)
theorem Ren.gk {α:Type} (h:Ren σ) (k:Str):∀ d:List (Str × α),MV.gk (reK σ d) (σ k)=MV.gk d k
 | []=>rfl
 | p :: d=>by
  have ih:=Ren.gk h k d
  unfold MV.gk at ih ⊢
  show ((((σ p.1,p.2) :: reK σ d).find? _).map Prod.snd)=_
  rw [List.find?_cons,List.find?_cons]
  by_cases e:p.1=k
  ·rw [decide_eq_true e,decide_eq_true (show σ p.1=σ k by rw [e])]
   rfl
  ·rw [decide_eq_false e,decide_eq_false (fun z=>e (h.inj _ _ z))]
   exact ih
theorem Ren.pk {α:Type} (h:Ren σ) (k:Str) (v:α) (d:List (Str × α)):MV.pk (reK σ d) (σ k) v=reK σ (MV.pk d k v):=by
 unfold MV.pk
 have e:((reK σ d).any fun p=>decide (p.1=σ k))=d.any fun p=>decide (p.1=k):=by
  unfold reK
  rw [List.any_map]
  refine congrArg (fun f=>List.any d f) (funext fun p=>?_)
  exact decide_eq_decide.mpr ⟨fun z=>h.inj _ _ z,fun z=>by show σ p.1=σ k; rw [z]⟩
 rw [e]
 split
 ·unfold reK
  rw [List.map_map,List.map_map]
  refine List.map_congr_left fun p _=>?_
  show (if σ p.1=σ k then (σ p.1,v) else (σ p.1,p.2))=(σ (if p.1=k then (p.1,v) else p).1,(if p.1=k then (p.1,v) else p).2)
  by_cases e2:p.1=k
  ·rw [if_pos (by rw [e2]),if_pos e2]
  ·rw [if_neg (fun z=>e2 (h.inj _ _ z)),if_neg e2]
 ·unfold reK
  rw [List.map_append]
  rfl
def RS.re (σ:Str→Str) (s:RS):RS:=⟨s.gs.map (List.map σ),reK σ s.prs,(σ s.df.1,s.df.2),s.bl,s.ls.map σ,reK σ s.pl,s.st⟩
theorem Ren.clash (h:Ren σ) (n g:Ps):MV.clash (n.map σ) (g.map σ)=MV.clash n g:=by
 unfold MV.clash
 rw [List.length_map,List.length_map,List.any_map]
 congr 1
 refine congrArg (fun f=>List.any n f) (funext fun x=>?_)
 exact h.dmem x g
theorem omap_ite {α β:Type} {p:Prop} [Decidable p] {f:α→β} {a b:Option α}:(if p then a else b).map f=if p then a.map f else b.map f:=by split <;> rfl
theorem Ren.drop (ps:Ps) (k:Nat):(ps.map σ).drop k=(ps.drop k).map σ:=(List.map_drop).symm
theorem Ren.accLists (h:Ren σ) (s:RS) (ps:Ps):MV.accLists (s.re σ) (ps.map σ)=(MV.accLists s ps).map (RS.re σ):=by
 unfold MV.accLists
 have e:((s.re σ).gs.any (MV.clash ((ps.drop 1).map σ)))=s.gs.any (MV.clash (ps.drop 1)):=by
  show (s.gs.map (List.map σ)).any _=_
  rw [List.any_map]
  refine congrArg (fun f=>List.any s.gs f) (funext fun g=>?_)
  exact h.clash _ g
 rw [Ren.drop,h.p0,h.dlit (c:="lists") (by decide +kernel),List.length_map,h.wordsB,e,omap_ite,omap_ite]
 congr 2
 show some _=some _
 refine congrArg some ?_
 unfold RS.re
 dsimp only
 rw [List.map_append,List.map_append]
 rfl
theorem Ren.accDefine (h:Ren σ) (s:RS) (ps:Ps):MV.accDefine (s.re σ) (ps.map σ)=(MV.accDefine s ps).map (RS.re σ):=by
 unfold MV.accDefine
 rw [Ren.drop,h.p0,List.length_map,h.wordsB,h.w,show MV.gk (s.re σ).prs (σ (MV.p0 ps 1))=MV.gk s.prs (MV.p0 ps 1) from h.gk _ _,omap_ite,omap_ite]
 rfl
theorem Ren.accEnd (h:Ren σ) (s:RS) (ps:Ps):MV.accEnd (s.re σ) (ps.map σ)=(MV.accEnd s ps).map (RS.re σ):=by
 unfold MV.accEnd
 rw [List.length_map,omap_ite,omap_ite]
 show (if _ then none else if _ then some _ else some _)=_
 congr 2
 refine congrArg some ?_
 show RS.mk _ (MV.pk (reK σ s.prs) (σ s.df.1) s.df.2) _ _ (s.gs.map (List.map σ)).flatten [] _=RS.mk _ (reK σ (MV.pk s.prs s.df.1 s.df.2)) _ _ (s.gs.flatten.map σ) [] _
 rw [h.pk,List.map_flatten]
 rfl
theorem Ren.accElse (s:RS) (ps:Ps):MV.accElse (s.re σ) (ps.map σ)=(MV.accElse s ps).map (RS.re σ):=by
 unfold MV.accElse
 rw [List.length_map,omap_ite]
 rfl
theorem Ren.accTake (h:Ren σ) (s:RS) (ps:Ps):MV.accTake (s.re σ) (ps.map σ)=(MV.accTake s ps).map (RS.re σ):=by
 unfold MV.accTake
 rw [Ren.drop,h.p0,h.p0,h.p0,List.length_map,h.w,show decide (σ (MV.p0 ps 3)∈(s.re σ).ls)=decide (MV.p0 ps 3∈s.ls) from h.dmem _ _,h.restB,h.sortOf,show MV.gk (s.re σ).pl (σ (MV.p0 ps 1))=MV.gk s.pl (MV.p0 ps 1) from h.gk _ _,omap_ite,omap_ite]
 congr 2
 refine congrArg some ?_
 show RS.mk _ _ _ _ _ (MV.pk (reK σ s.pl) (σ _) _) _=RS.mk _ _ _ _ _ (reK σ (MV.pk s.pl _ _)) _
 rw [h.pk]
 rfl
theorem Ren.simB (h:Ren σ) (s:RS) (ps:Ps):MV.simB (s.re σ) (ps.map σ)=MV.simB s ps:=by
 unfold MV.simB
 have hm:∀ x,decide (σ x∈(s.re σ).ls)=decide (x∈s.ls):=fun x=>h.dmem _ _
 have e:(((ps.drop 2).map σ).all fun n=>decide (n∈(s.re σ).ls))=(ps.drop 2).all fun n=>decide (n∈s.ls):=by
  rw [List.all_map]
  exact congrArg (fun f=>List.all (ps.drop 2) f) (funext fun x=>hm x)
 rw [Ren.drop,h.p0,h.p0,h.p0,h.p0,List.length_map,e,hm,hm,h.nml,show MV.gk (s.re σ).prs (σ (MV.p0 ps 1))=MV.gk s.prs (MV.p0 ps 1) from h.gk _ _,show MV.gk (s.re σ).pl (σ (MV.p0 ps 2))=MV.gk s.pl (MV.p0 ps 2) from h.gk _ _,h.dlit (c:="into") (by decide +kernel),h.dlit (c:="cut") (by decide +kernel),h.dlit (c:="set") (by decide +kernel),
  ite_iff (or_congr (h.lit (c:="check") (by decide +kernel) _) (h.lit (c:="stop") (by decide +kernel) _)),ite_iff (h.lit (c:="call") (by decide +kernel) _),ite_iff (h.lit (c:="pour") (by decide +kernel) _),ite_iff (h.lit (c:="move") (by decide +kernel) _),show (if σ (MV.p0 ps 0)=("set" : Str) then 4 else 3)=(if MV.p0 ps 0=("set" : Str) then 4 else 3) from ite_iff (h.lit (by decide +kernel) _)]
theorem Ren.begun (s:RS):MV.begun (s.re σ)=(MV.begun s).re σ:=by
 unfold MV.begun
 show (if s.bl=[] then _ else _)=_
 split <;> rfl
theorem Ren.accLine (h:Ren σ) (s:RS) (k:Nat) (ps:Ps):MV.accLine (s.re σ) k (ps.map σ)=(MV.accLine s k ps).map (RS.re σ):=by
 unfold MV.accLine
 have hn:(ps.map σ=[])↔ps=[]:=List.map_eq_nil_iff
 rw [ite_iff hn,h.p0,Ren.begun,h.accLists,h.accDefine,h.accEnd,Ren.accElse,h.accTake,h.simB,List.length_map,
  ite_iff (show (k=0∨k=1∧σ (MV.p0 ps 0)=("lists" : Str))↔(k=0∨k=1∧MV.p0 ps 0=("lists" : Str)) from or_congr Iff.rfl (and_congr Iff.rfl (h.lit (by decide +kernel) _))),
  ite_iff (h.lit (c:="define") (by decide +kernel) _),ite_iff (h.lit (c:="end") (by decide +kernel) _),ite_iff (h.lit (c:="else") (by decide +kernel) _),ite_iff (h.lits blk_nw _),ite_iff (h.lit (c:="take") (by decide +kernel) _),
  omap_ite,omap_ite,omap_ite,omap_ite,omap_ite,omap_ite,omap_ite,omap_ite,omap_ite]
 by_cases hb:MV.p0 ps 0∈blkL
 ·rw [if_pos hb,if_pos hb,h.fx _ (blk_nw _ hb)]
  rfl
 ·rw [if_neg hb,if_neg hb]
  rfl
theorem Ren.runE (h:Ren σ):∀ (l:List Ps) (s:RS) (k:Nat),MV.runE (s.re σ) k (l.map (List.map σ))=match MV.runE s k l with | .inl e=>.inl e | .inr q=>.inr (q.1.map (List.map σ),q.2.re σ)
 | [],s,k=>rfl
 | ps :: r,s,k=>by
  show (match MV.accLine (s.re σ) k (ps.map σ) with | none=>Sum.inl k | some s'=>match MV.runE s' (k+1) (r.map (List.map σ)) with | .inl e=>.inl e | .inr q=>.inr (s'.ls :: q.1,q.2))=match (match MV.accLine s k ps with | none=>Sum.inl k | some s'=>match MV.runE s' (k+1) r with | .inl e=>.inl e | .inr q=>.inr (s'.ls :: q.1,q.2)) with | .inl e=>.inl e | .inr q=>.inr (q.1.map (List.map σ),q.2.re σ)
  rw [h.accLine]
  cases MV.accLine s k ps with
  | none=>rfl
  | some s' =>
   show ((match MV.runE (s'.re σ) (k+1) (r.map (List.map σ)) with | .inl e=>.inl e | .inr q=>.inr ((s'.re σ).ls :: q.1,q.2):Nat ⊕ (List Ps × RS)))=match (match MV.runE s' (k+1) r with | .inl e=>.inl e | .inr q=>.inr (s'.ls :: q.1,q.2):Nat ⊕ (List Ps × RS)) with | .inl e=>.inl e | .inr q=>.inr (q.1.map (List.map σ),q.2.re σ)
   rw [Ren.runE h r s' (k+1)]
   cases MV.runE s' (k+1) r <;> rfl
def badN:Nat ⊕ (List Ps × RS)→Option Nat
 | .inl e=>some e
 | .inr _=>none
theorem Ren.readE (h:Ren σ) (l:List Ps):badN (MV.readE (l.map (List.map σ)))=badN (MV.readE l):=by
 unfold MV.readE
 have e0:MV.runE RS.init 0 (l.map (List.map σ))=match MV.runE RS.init 0 l with | .inl e=>.inl e | .inr q=>.inr (q.1.map (List.map σ),q.2.re σ):=by
  have:=h.runE l RS.init 0
  rw [show RS.re σ RS.init=RS.init by unfold RS.re RS.init; rw [h.emp]; rfl] at this
  exact this
 rw [e0,List.length_map]
 cases MV.runE RS.init 0 l with
 | inl e=>rfl
 | inr q =>
  show badN (if q.2.bl=[] then _ else _)=badN (if q.2.bl=[] then _ else _)
  split <;> rfl
end
def swS (a b x:Str):Str:=if x=a then b else if x=b then a else x
theorem swS_inv (a b x:Str):swS a b (swS a b x)=x:=by
 unfold swS
 by_cases h1:x=a
 ·rw [if_pos h1]
  by_cases h2:b=a
  ·rw [if_pos h2,h1,h2]
  ·rw [if_neg h2,if_pos rfl,h1]
 ·rw [if_neg h1]
  by_cases h2:x=b
  ·rw [if_pos h2,if_pos rfl,h2]
  ·rw [if_neg h2,if_neg h1,if_neg h2]
theorem swS_ren {a b:Str} (ha:wordB a=true) (hb:wordB b=true):Ren (swS a b):=by
 refine ⟨fun x y e=>?_,fun x=>?_,fun x hx=>?_⟩
 ·have:=congrArg (swS a b) e
  rwa [swS_inv,swS_inv] at this
 ·unfold swS
  split
  ·next e=>rw [e,ha,hb]
  ·split
   ·next e=>rw [e,ha,hb]
   ·rfl
 ·unfold swS
  rw [if_neg (fun e=>by rw [e,ha] at hx; cases hx),if_neg (fun e=>by rw [e,hb] at hx; cases hx)]
theorem Ren.comp {σ τ:Str→Str} (h:Ren σ) (k:Ren τ):Ren (fun x=>σ (τ x)):=⟨fun x y e=>k.inj _ _ (h.inj _ _ e),fun x=>by rw [h.w,k.w],fun x hx=>by rw [k.fx x hx,h.fx x hx]⟩
theorem ren_id:Ren (fun x=>x):=⟨fun _ _ e=>e,fun _=>rfl,fun _ _=>rfl⟩
theorem ren_ex:∀ (xs ys:List Str),xs.length=ys.length→xs.Nodup→ys.Nodup→(∀ x∈xs,wordB x=true)→(∀ y∈ys,wordB y=true)→∃ σ,Ren σ∧xs.map σ=ys
 | [],[],_,_,_,_,_=>⟨fun x=>x,ren_id,rfl⟩
 | x :: xs,y :: ys,hl,nx,ny,hx,hy=>by
  rw [List.nodup_cons] at nx ny
  obtain ⟨σ,r,e⟩:=ren_ex xs ys (by simpa using hl) nx.2 ny.2 (fun z hz=>hx z (.tail _ hz)) (fun z hz=>hy z (.tail _ hz))
  refine ⟨fun z=>swS (σ x) y (σ z),(swS_ren (by rw [r.w]; exact hx x (.head _)) (hy y (.head _))).comp r,?_⟩
  rw [List.map_cons]
  congr 1
  ·unfold swS
   rw [if_pos rfl]
  ·rw [← e]
   refine List.map_congr_left fun z hz=>?_
   have h1:σ z≠σ x:=fun q=>nx.1 (r.inj _ _ q ▸ hz)
   have h2:σ z≠y:=fun q=>ny.1 (by rw [← q,← e]; exact List.mem_map.mpr ⟨z,hz,rfl⟩)
   unfold swS
   rw [if_neg h1,if_neg h2]
 | [],y :: ys,hl,_,_,_,_=>by cases hl
 | x :: xs,[],hl,_,_,_,_=>by cases hl
structure TxtPg (K:PySem.W.Frag) (mg:Str→Option Value) (KPT SGN MVG BLK CR CP:Addr):Prop extends TxtRd K mg KPT SGN MVG BLK CR where
 ckP:Cls K CP
 rp:∀ f∈(["lines","scopes","groups","names"]:List Str),NoAttr K CP f
 g_Program:mg "Program"=some (.ref CP)
def pgF (ql qs qg qn:Addr):List (Str × V):=[("lines",.ref ql),("scopes",.ref qs),("groups",.ref qg),("names",.ref qn)]
section
variable {ql qs qg qn:Addr}
end
inductive GS (K:PySem.W.Frag) (H:Hp):List Addr→List Ps→Prop
 | nil:GS K H [] []
 | cons {a:Addr} {as:List Addr} {g:Ps} {gs:List Ps}:SqT K H a (g.map V.str)→GS K H as gs→GS K H (a :: as) (g :: gs)
theorem GS.ev {TS:List (Addr × Str)} {K:PySem.W.Frag} {L:List Addr} {H H':Hp} (e:Ev TS L H H'):∀ {as:List Addr} {gs:List Ps},GS K H as gs→GS K H' as gs
 | _,_,.nil=>.nil
 | _,_,.cons h r=>.cons (ev_sqT e h) (r.ev e)
theorem GS.snoc {K:PySem.W.Frag} {H:Hp} {a:Addr} {g:Ps} (h:SqT K H a (g.map V.str)):∀ {as:List Addr} {gs:List Ps},GS K H as gs→GS K H (as++[a]) (gs++[g])
 | _,_,.nil=>.cons h .nil
 | _,_,.cons h' r=>.cons h' (r.snoc h)
theorem GS.len {K:PySem.W.Frag} {H:Hp}:∀ {as:List Addr} {gs:List Ps},GS K H as gs→as.length=gs.length
 | _,_,.nil=>rfl
 | _,_,.cons _ r=>congrArg Nat.succ r.len
def PgAt (K:PySem.W.Frag) (CP:Addr) (H:Hp) (x:Addr) (lns:List Str) (scs gs:List Ps):Prop:=∃ dx ql qs qg qn asc ag,H x=some (.ins CP dx (pgF ql qs qg qn))∧H ql=some (.tup (lns.map V.str))∧H qs=some (.tup (asc.map V.ref))∧GS K H asc scs∧H qg=some (.tup (ag.map V.ref))∧GA H ag gs∧FzT H qn (gs.flatten.map V.str)
def lineS (ps:Ps):Str:=Txt.join sp1 ps
def spPgI (TS:List (Addr × Str)) (K:PySem.W.Frag) (CP CBL:Addr):Sp:=fun vs H Q E=>∃ (x dx:Addr) (t:Str),vs=[.ref x,.str t]∧H x=some (.ins CP dx [])∧TOk t ∧
 (∀ q,readE (linesOf t)=.inr q→∀ H':Hp,Ev TS [x] H H'→PgAt K CP H' x ((linesOf t).map lineS) q.1 q.2.gs→Q .non H')∧(∀ i,readE (linesOf t)=.inl i→Rz TS H E CBL [("at",.int (i:Int))])
theorem RdAt.ev {TS:List (Addr × Str)} {K:PySem.W.Frag} {CR:Addr} {L:List Addr} {H H':Hp} {R:Addr} {s:RS} {qg qp qb qpl:Addr} (h:RdAt K CR H R s qg qp qb qpl) (e:Ev TS L H H') (a:Nin H R L) (b:Nin H qg L) (c:Nin H qp L) (d:Nin H qb L) (f:Nin H qpl L):RdAt K CR H' R s qg qp qb qpl:=by
 obtain ⟨dx,qd,ql,as,h1,h2,h3,h4,h5,h6,h7,h8,h9,h10⟩:=h
 exact ⟨dx,qd,ql,as,ev_ins e h1 a,ev_lst e h2 b,h3.ev e,ev_dK e h4 c,ev_tup e h5,ev_lst e h6 d,ev_sqT e h7,ev_dK e h8 f,h9,h10⟩
theorem RdAt.isI {K:PySem.W.Frag} {CR:Addr} {H:Hp} {R:Addr} {s:RS} {qg qp qb qpl:Addr} (h:RdAt K CR H R s qg qp qb qpl):isI H R:=by
 obtain ⟨dx,qd,ql,as,h1,_⟩:=h
 exact isI.of h1
theorem RdAt.isDp {K:PySem.W.Frag} {CR:Addr} {H:Hp} {R:Addr} {s:RS} {qg qp qb qpl:Addr} (h:RdAt K CR H R s qg qp qb qpl):isDk H qp:=by
 obtain ⟨dx,qd,ql,as,h1,h2,h3,h4,_⟩:=h
 exact isDk.of h4
theorem RdAt.isDl {K:PySem.W.Frag} {CR:Addr} {H:Hp} {R:Addr} {s:RS} {qg qp qb qpl:Addr} (h:RdAt K CR H R s qg qp qb qpl):isDk H qpl:=by
 obtain ⟨dx,qd,ql,as,h1,h2,h3,h4,h5,h6,h7,h8,h9⟩:=h
 exact isDk.of h8
section
variable {P:Program} {w:World} {K:PySem.W.Frag} {mg:Str→Option Value} {base:Heap} {KPT SGN MVG BLK CR CP CBL:Addr} {TS:List (Addr × Str)}
theorem sc_pg_init:FnScope ["self","text","reader","lines","scopes","at","line","parts","part","group","name"] ["self","text"] (defScope s_pg_init):=⟨rfl,rfl,rfl,by decide +kernel,rfl,by decide +kernel,by decide +kernel⟩
theorem ok_pg_init {f:Addr} {fd:FuncData} (F:Fun K "__init__" "Program.__init__" s_pg_init f fd) (T:TxtPg K mg KPT SGN MVG BLK CR CP) (MReader:Ml P w K mg base CX0 1 "Reader" CR (spRdI TS K CR)) (MRaccepts:Me P w K mg base CX0 4 CR "accepts" (spAccs TS K CR)) (XBadLine:Xc P w K mg base 1 "BadLine" CBL ["at"]):FnR P w K mg base (L2.CX P w) 5 f (spPgI TS K CP CBL):=by
 refine fnrX F sc_pg_init (fun vs H Q E h=>?_) (fun _ _ _ _ _ _ us hl=>match us,hl with | [_,_],_=>rfl) (fun cdv A outer s H vs Q E hr h=>?_)
 ·obtain ⟨x,dx,t,rfl,_⟩:=h
  rfl
 ·obtain ⟨x,dx,t,rfl,hx,tok,k1,k2⟩:=h
  refine ⟨_,(pss_cons (ps_if (pt_not (pt_val (pe_callB call_isi (by rfl) T.n_isinstance (by decide +kernel) (pa_cons (pv 1) (pa_cons (pe_bltn (v:=.ty "str") (by rfl) T.n_str (by decide +kernel) rfl) pa_nil))))) (pss_one (ps_raise rfl (takes_of rfl rfl rfl rfl) (pmk_x XBadLine hr (by decide) (by rfl) (pa_cons (pe_un un_neg pe_int) pa_nil)))) pss_nil)
   (pss_cons (ps_par3 (i:=2) (j:=3) (l:=4) (by rfl) sc_pg_init.nd rfl rfl rfl (by decide) (by decide) (by decide) rfl rfl rfl (pa_cons (pe_ml0 MReader hr (by decide) (by rfl) pass0) (pa_cons (pe_lst pa_nil) (pa_cons (pe_lst pa_nil) pa_nil))) (by rfl))
   (pss_cons (ps_for (passes_of rfl) rfl (pi_enum (by rfl) T.n_enumerate (pa_cons (pe_split (pv 1) pe_str) pa_nil)) (pg_tup rfl (pgs_cons (pg_name (i:=5) sc_pg_init.nd rfl (Or.inl rfl)) (pgs_cons (pg_name (i:=6) sc_pg_init.nd rfl (Or.inl rfl)) pgs_nil)))
    (pss_cons (ps_setLc (i:=7) (own:=[("part",8)]) (by rfl) sc_pg_init.nd rfl rfl (sw_true rfl rfl rfl (by decide +kernel)) (pi_list (pe_split (pv 6) pe_str)) (blkOk_by (own:=[("part",8)]) (N:=["self","text","reader","lines","scopes","at","line","parts","part","group","name"]) (sc:=defScope s_pg_init) (by first | decide +kernel | kernel_rfl)) (fun _ _ _ _ _=>(pg_name (i:=8) sc_pg_init.nd rfl (Or.inl rfl))) (fun _ _ _ _ _=>by exact (pts_one (pt_cmpR op_ne (pv 8) pe_str (nomark _)))) (fun _ _ _ _ _=>by exact (pv 8)))
    (pss_cons (ps_if (pt_not (pt_val (pe_mo (pv 2) T.ckR MRaccepts hr (by decide) pass0 (pa_cons (pv 5) (pa_cons (pv 7) pa_nil))))) (pss_one (ps_raise rfl (takes_of rfl rfl rfl rfl) (pmk_x XBadLine hr (by decide) (by rfl) (pa_cons (pv 5) pa_nil)))) pss_nil)
    (pss_cons (ps_expr (pe_bm PySem.F.plainAttrs_list PySem.F.slot_list_append PySem.F.type_list_append mt_append (pv 3) (pa_cons (pe_join pe_str (pv 7)) pa_nil)))
    (pss_one (ps_expr (pe_bm PySem.F.plainAttrs_list PySem.F.slot_list_append PySem.F.type_list_append mt_append (pv 4) (pa_cons (pe_fld (pv 2) (by rfl)) pa_nil))))))))
   (pss_cons (ps_if (pt_cmpR (op_neD hr.units) (pe_fld (pv 2) (by rfl)) (pe_lst pa_nil) (nomark _)) (pss_one (ps_raise rfl (takes_of rfl rfl rfl rfl) (pmk_x XBadLine hr (by decide) (by rfl) (pa_cons (pe_callB call_len_seq (by rfl) T.n_len (by decide +kernel) (pa_cons (pv 3) pa_nil)) pa_nil)))) pss_nil)
   (pss_cons (ps_fld (pv 0) (pe_callTy call_tuple_of (by rfl) T.n_tuple (by decide +kernel) (pa_cons (pv 3) pa_nil)) rfl)
   (pss_cons (ps_fld (pv 0) (pe_callTy call_tuple_of (by rfl) T.n_tuple (by decide +kernel) (pa_cons (pv 4) pa_nil)) rfl)
   (pss_cons (ps_fld (pv 0) (pe_callTy call_tuple_of (by rfl) T.n_tuple (by decide +kernel) (pa_cons (pe_fld (pv 2) (by rfl)) pa_nil)) rfl)
   (pss_one (ps_fld (pv 0) (pe_callTy call_tupleF (by rfl) T.n_tuple (by decide +kernel) (pa_cons (pe_lc2 (own:=[("group",9),("name",10)]) (vs1:=[10]) (by rfl) sc_pg_init.nd (pi_list (pe_fld (pv 2) (by rfl))) (blkOk_by (own:=[("group",9),("name",10)]) (N:=["self","text","reader","lines","scopes","at","line","parts","part","group","name"]) (sc:=defScope s_pg_init) (by first | decide +kernel | kernel_rfl)) (by decide) (fun _ _ _ _ _=>(pg_name (i:=9) sc_pg_init.nd rfl (Or.inl rfl))) (fun _ _ _ _ _=>pts_nil) (fun _ _ _ _ _=>by exact (pi_tupK (K:=K) (by rfl) (pv 9))) (fun _ _ _ _ _=>(pg_name (i:=10) sc_pg_init.nd rfl (Or.inl rfl))) (fun _ _ _ _ _=>pts_nil) (fun _ _ _ _ _=>by exact (pv 10))) pa_nil)) rfl))))))))),?_⟩
  walk_at "rd"
  refine ⟨_,_,_,_,_,rfl,.ty _,.base (.str t),kit_ty (r:=true) (by decide +kernel),?_⟩
  walk_at "rd"
  refine ifF rfl ?_
  walk_at "rd"
  refine fun R dr nR ndr nd=>?_
  have E1:Ev TS [] H (upd (upd H dr (.own R)) R (.ins CR dr [])):=Ev.trans (Ev.new ndr) (Ev.new (by rw [upd_ne (Ne.symm nd)]; exact nR)) trivial
  have hR1:(upd (upd H dr (.own R)) R (.ins CR dr [])) R=some (.ins CR dr []):=upd_same
  generalize upd (upd H dr (.own R)) R (.ins CR dr [])=H1 at E1 hR1 ⊢
  refine ⟨R,dr,rfl,hR1,fun H2 qg qp qb qpl e2 ra2 ng1 np1 nb1 npl1=>?_⟩
  have nRH:NA H R:=.of nR
  have le1:Le H H1:=Le.ev E1 (Le.refl _)
  have ng:NA H qg:=Le.na ng1 le1
  have np:NA H qp:=Le.na np1 le1
  have nb:NA H qb:=Le.na nb1 le1
  have npl:NA H qpl:=Le.na npl1 le1
  have E2:Ev TS [] H H2:=Ev.trans E1 e2 ⟨.inr nRH,trivial⟩
  clear e2 E1 ng1 np1 nb1 npl1 le1 hR1
  walk_at "rd"
  refine ⟨by show 0≤sizeLine; decide,fun D1 hD1=>?_⟩
  generalize hX:upd _ D1 _=H3
  obtain ⟨e3,h3⟩:=new_facts (TS:=TS) hX hD1
  clear hX
  walk_at "rs"
  refine ⟨by show 0≤sizeLine; decide,fun D2 hD2=>?_⟩
  generalize hX:upd _ D2 _=H4
  obtain ⟨e4,h4⟩:=new_facts (TS:=TS) hX hD2
  clear hX
  walk_at "rs"
  refine ⟨_,_,_,rfl,?_⟩
  walk_at "rd"
  refine ⟨⟨t,rfl⟩,?_⟩
  walk_at "rd"
  refine ⟨by have:=tok.1; exact le_line (by omega),fun sp hsp=>?_⟩
  generalize hX:upd _ sp _=H5
  obtain ⟨e5,h5⟩:=new_facts (TS:=TS) hX hsp
  clear hX
  walk_at "rs"
  have leH2:Le H H2:=Le.ev E2 (Le.refl _)
  obtain ⟨dxr,qd,ql,as,hR2,hg2,ga2,hp2,hd2,hb2,hl2,hpl2,n1,n2⟩:=_root_.id ra2
  have nD1:NA H D1:=Le.na (.of hD1) leH2
  have nD2:NA H D2:=Le.na (.of hD2) (Le.ev e3 leH2)
  have nsp:NA H sp:=Le.na (.of hsp) (Le.ev e4 (Le.ev e3 leH2))
  have d12:D1≠D2:=(show NeH H5 D1 D2 from (by walk_at "ne"))
  have d1s:D1≠sp:=(show NeH H5 D1 sp from (by walk_at "ne"))
  have d2s:D2≠sp:=(show NeH H5 D2 sp from (by walk_at "ne"))
  have g1:D1≠qg:=(show NeH H5 D1 qg from (by walk_at "ne"))
  have g2:D2≠qg:=(show NeH H5 D2 qg from (by walk_at "ne"))
  have g3:sp≠qg:=(show NeH H5 sp qg from (by walk_at "ne"))
  have b1:D1≠qb:=(show NeH H5 D1 qb from (by walk_at "ne"))
  have b2:D2≠qb:=(show NeH H5 D2 qb from (by walk_at "ne"))
  have b3:sp≠qb:=(show NeH H5 sp qb from (by walk_at "ne"))
  have hD1':H5 D1=some (.lst []):=(by walk_at "t")
  have hD2':H5 D2=some (.lst []):=(by walk_at "t")
  have ra5:RdAt K CR H5 R RS.init qg qp qb qpl:=⟨dxr,qd,ql,as,(by walk_at "t"),(by walk_at "t"),((ga2.ev e3).ev e4).ev e5,(by walk_at "t"),(by walk_at "t"),(by walk_at "t"),(by walk_at "t"),(by walk_at "t"),n1,n2⟩
  have E5:Ev TS [] H H5:=Ev.trans (Ev.trans (Ev.trans E2 e3 trivial) e4 trivial) e5 trivial
  have hcnt:(Txt.split t nl1).length≤20001:=by have:=split_cnt (x:=t) nl1_len; have:=tok.1; omega
  have hll:(linesOf t).length=(Txt.split t nl1).length:=List.length_map _
  clear e3 e4 e5 h3 h4 E2 hR2 hg2 ga2 hp2 hd2 hb2 hl2 hpl2 hD1 hD2 hsp ra2
  walk_at "rd"
  refine ⟨sp,_,rfl,SqL.of h5,for_it (walk_enum (xs:=(Txt.split t nl1).map V.str)) (fun i σ H'=>∃ v5 v6 v7 v8 v9 v10:Option V,σ=[some (.ref x),some (.str t),some (.ref R),some (.ref D1),some (.ref D2),v5,v6,v7,v8,v9,v10]∧∃ (q:List Ps × RS) (qpl':Addr) (asc:List Addr),
   runL RS.init 0 ((linesOf t).take i)=some q∧Ev TS [] H H'∧RdAt K CR H' R q.2 qg qp qb qpl'∧NA H qpl'∧H' D1=some (.lst ((((linesOf t).take i).map lineS).map V.str))∧H' D2=some (.lst (asc.map V.ref))∧GS K H' asc q.1∧H' sp=some (.lst ((Txt.split t nl1).map V.str)))
   ⟨none,none,none,none,none,none,rfl,([],RS.init),qpl,[],rfl,E5,ra5,npl,hD1',hD2',.nil,h5⟩ (fun i σ H' _ hI=>?_) ?_ ?_⟩
  ·obtain ⟨v5,v6,v7,v8,v9,v10,rfl,q,qpl',asc,_,_,_,_,_,_,_,hs⟩:=hI
   exact SqL.of hs
  ·rintro i y σ H6 H7 hi ⟨v5,v6,v7,v8,v9,v10,rfl,q,qpl',asc,hq,E6,ra6,npl',hL6,hS6,gs6,hs6⟩ ⟨T1,y1,y2,rfl,hT,hH7,ey1,ey2⟩
   have hi':i < (Txt.split t nl1).length:=by simpa using hi
   obtain rfl:V.int (i:Int)=y1:=Option.some.inj ey1
   have ey2':((Txt.split t nl1).map V.str)[i]? = some y2:=ey2
   rw [List.getElem?_map,List.getElem?_eq_getElem hi'] at ey2'
   obtain rfl:=Option.some.inj ey2'
   clear ey1 ey2 ey2'
   generalize hl:(Txt.split t nl1)[i]=l
   have el:(linesOf t)[i]? = some (partsOf l):=by
    unfold linesOf
    rw [List.getElem?_map,List.getElem?_eq_getElem hi',hl]
    rfl
   have lok:TOk l:=line_ok tok l (hl ▸ List.getElem_mem hi')
   have pok:=parts_ok lok
   have e7:Ev TS [] H6 H7:=hH7 ▸ Ev.new hT
   have hT7:H7 T1=some (.tup [.int (i:Int),.str l]):=by rw [hH7,upd_same,hl]
   clear hH7
   have rbi:=runL_RB RB.init hq
   rw [Nat.zero_add,List.length_take] at rbi
   have hib:min i (linesOf t).length≤30000:=by rw [hll]; omega
   obtain ⟨dxr,qd,ql,as,hR6,hg6,ga6,hp6,hd6,hb6,hl6,hpl6,n1,n2⟩:=ra6
   refine ⟨T1,_,rfl,SqT.of hT7,rfl,?_⟩
   walk_at "rd"
   refine ⟨⟨l,rfl⟩,?_⟩
   walk_at "rd"
   refine ⟨by have:=lok.1; exact le_line (by omega),fun q1 hq1=>?_⟩
   generalize hX:upd _ q1 _=H8
   obtain ⟨e8,h8⟩:=new_facts (TS:=TS) hX hq1
   clear hX
   walk_at "rs"
   walk_at "rd"
   refine ⟨⟨_,SqL.of h8⟩,?_⟩
   walk_at "rd"
   refine fun D3 hD3=>lc_ev (TS:=TS) (walk_list (xs:=(Txt.split l sp1).map V.str)) hD3 (fun k acc H'=>Ev TS [] H8 H'∧acc=(((Txt.split l sp1).take k).filter fun z=>!decide (z=(Str.ofString ""))).map V.str) (fun H9 e9 h9=>⟨e9,by simp⟩) (fun k acc H' _ hI _=>ev_sqL hI.1 (SqL.of h8) trivial) ?_ ?_
   ·rintro k z acc Hz H9 hk ⟨e9,rfl⟩ hD9 ⟨rfl,hz⟩
    have hk':k < (Txt.split l sp1).length:=by simpa using hk
    rw [List.getElem?_map,List.getElem?_eq_getElem hk'] at hz
    obtain rfl:=Option.some.inj hz
    have nD3:NA H8 D3:=.of hD3
    have tk:(Txt.split l sp1).take (k+1)=(Txt.split l sp1).take k++[(Txt.split l sp1)[k]]:=by
     rw [List.take_add_one,List.getElem?_eq_getElem hk']
     rfl
    walk_at "rd"
    rw [dec_str]
    refine ite2 (fun c=>?_) (fun c=>?_)
    ·walk_at "rd"
     refine lc_put (TS:=TS) hD9 (by
      rw [List.length_map]
      have h1:=List.length_filter_le (fun z=>!decide (z=(Str.ofString ""))) ((Txt.split l sp1).take k)
      have h2:=split_cnt (x:=l) sp1_len
      rw [List.length_take] at h1
      have:=lok.1
      exact lt_line (by omega)) fun H10 e10 h10=>?_
     refine ⟨Ev.trans e9 e10 ⟨.inr nD3,trivial⟩,?_⟩
     rw [tk,List.filter_append,List.map_append]
     congr 1
     rw [List.filter_cons,if_pos c]
     rfl
    ·refine ⟨_,hD9,e9,?_⟩
     rw [tk,List.filter_append,List.filter_cons,if_neg c]
     simp
   ·rintro acc H9 ⟨e9,rfl⟩ hD9
    rw [List.length_map,List.take_length] at hD9
    have hp9:H9 D3=some (.lst ((partsOf l).map V.str)):=hD9
    have e79:Ev TS [] H6 H9:=Ev.trans (Ev.trans e7 e8 trivial) e9 trivial
    have nD3:NA H6 D3:=Le.na (.of hD3) (Le.ev e8 (Le.ev e7 (Le.refl _)))
    clear hT7 h8 hD9 e7 e8 e9 hD3
    have ng3:D3≠qg:=fun e=>nD3 (e ▸ Al.lst hg6)
    have nb3:D3≠qb:=fun e=>nD3 (e ▸ Al.lst hb6)
    have nl3:D3≠D1:=fun e=>nD3 (e ▸ Al.lst hL6)
    have ns3:D3≠D2:=fun e=>nD3 (e ▸ Al.lst hS6)
    have ra9:RdAt K CR H9 R q.2 qg qp qb qpl':=⟨dxr,qd,ql,as,(by walk_at "t"),(by walk_at "t"),ga6.ev e79,(by walk_at "t"),(by walk_at "t"),(by walk_at "t"),(by walk_at "t"),(by walk_at "t"),n1,n2⟩
    have hL9:H9 D1=_:=ev_lst e79 hL6 trivial
    have hS9:H9 D2=_:=ev_lst e79 hS6 trivial
    have hs9:H9 sp=_:=ev_lst e79 hs6 trivial
    have gs9:=gs6.ev e79
    have hR9:H9 R=some (.ins CR dxr (rdF qg qp qd qb ql qpl' q.2.st)):=(by walk_at "t")
    have E9:=Ev.trans E6 e79 trivial
    have iR:isI H9 R:=isI.of hR9
    have iqp:isDk H9 qp:=isDk.of (ev_dK e79 hp6 trivial)
    have iqpl:isDk H9 qpl':=isDk.of (ev_dK e79 hpl6 trivial)
    have nin:∀ {Dx:Addr},isL H9 Dx→Dx≠qg→Dx≠qb→Nin H9 Dx [R,qg,qp,qb,qpl']:=fun il a b=>⟨neLI il iR,a,neLD il iqp,b,neLD il iqpl,trivial⟩
    clear hR6 hg6 ga6 hp6 hd6 hb6 hl6 hpl6 hL6 hS6 hs6 gs6 e79
    walk_at "rd"
    refine ⟨R,dxr,_,rfl,hR9,m_accepts,?_⟩
    walk_at "rd"
    refine ⟨R,D3,i,q.2,partsOf l,qg,qp,qb,qpl',_,rfl,ra9,rbi,hib,hp9,pok,ng3,nb3,fun s' es H10 qpl2 e10 ra10 nn=>?_,fun es H10 e10=>?_⟩
    ·have npl2:NA H qpl2:=nn.elim (fun e=>e ▸ npl') (fun z=>Le.na z (Le.ev E9 (Le.refl _)))
     have E10:Ev TS [] H H10:=Ev.trans E9 e10 ⟨.inr nRH,.inr ng,.inr np,.inr nb,.inr npl',trivial⟩
     have hp10:H10 D3=_:=ev_lst e10 hp9 (nin (isL.of hp9) ng3 nb3)
     have hL10:H10 D1=_:=ev_lst e10 hL9 (nin (isL.of hL9) g1 b1)
     have hS10:H10 D2=_:=ev_lst e10 hS9 (nin (isL.of hS9) g2 b2)
     have hs10:H10 sp=_:=ev_lst e10 hs9 (nin (isL.of hs9) g3 b3)
     have gs10:=gs9.ev e10
     have hq':=runL_take hq el (by rw [Nat.zero_add]; exact es)
     walk_at "rd"
     refine ⟨.inl ⟨rfl,_,SqL.of hL10⟩,?_⟩
     walk_at "rd"
     refine ⟨⟨_,rfl⟩,?_⟩
     walk_at "rd"
     have hjb:((partsOf l).map (·.length)).sum+(partsOf l).length * (Str.ofString " ").length≤16777216:=by
      have h1:=parts_sum lok
      have h2:=pok.l
      have h3:(Str.ofString " ").length=1:=by decide +kernel
      rw [h3]
      omega
     refine ⟨Str.ofString " ",D3,partsOf l,rfl,rfl,.inl (SqL.of hp10),hjb,?_⟩
     walk_at "rd"
     have lmi:((((linesOf t).take i).map lineS).map V.str).length≤30000:=by rw [List.length_map,List.length_map,List.length_take]; exact hib
     refine a_append (TS:=TS) hL10 (lt_line (by omega)) fun H11 e11 h11=>?_
     walk_at "rd"
     have iL10:isL H10 D1:=isL.of hL10
     have ra11:=ra10.ev e11 ⟨neIL ra10.isI iL10,trivial⟩ ⟨Ne.symm g1,trivial⟩ ⟨neDL ra10.isDp iL10,trivial⟩ ⟨Ne.symm b1,trivial⟩ ⟨neDL ra10.isDl iL10,trivial⟩
     have hS11:H11 D2=_:=ev_lst e11 hS10 ⟨Ne.symm d12,trivial⟩
     have hs11:H11 sp=_:=ev_lst e11 hs10 ⟨Ne.symm d1s,trivial⟩
     have gs11:=gs10.ev e11
     have E11:Ev TS [] H H11:=Ev.trans E10 e11 ⟨.inr nD1,trivial⟩
     refine ⟨.inl ⟨rfl,_,SqL.of hS11⟩,?_⟩
     walk_at "rd"
     obtain ⟨dxs,qds,qls,ass,hRs,_,_,_,_,_,hls,_⟩:=_root_.id ra11
     refine ⟨R,CR,dxs,_,_,rfl,hRs,T.ckR,T.ra _ (by simp),l_lists,?_⟩
     walk_at "rd"
     have lmc:(asc.map V.ref).length≤30000:=by
      rw [List.length_map,gs9.len]
      have:=runL_len hq
      rw [this,List.length_take]
      exact hib
     refine a_append (TS:=TS) hS11 (lt_line (by omega)) fun H12 e12 h12=>?_
     have iS11:isL H11 D2:=isL.of hS11
     have ra12:=ra11.ev e12 ⟨neIL ra11.isI iS11,trivial⟩ ⟨Ne.symm g2,trivial⟩ ⟨neDL ra11.isDp iS11,trivial⟩ ⟨Ne.symm b2,trivial⟩ ⟨neDL ra11.isDl iS11,trivial⟩
     have hL12:H12 D1=_:=ev_lst e12 h11 ⟨d12,trivial⟩
     have hs12:H12 sp=_:=ev_lst e12 hs11 ⟨Ne.symm d2s,trivial⟩
     refine ⟨_,_,_,_,_,_,rfl,(q.1++[s'.ls],s'),qpl2,asc++[qls],hq',Ev.trans E11 e12 ⟨.inr nD2,trivial⟩,ra12,npl2,?_,?_,GS.snoc (ev_sqT e12 hls) (gs11.ev e12),hs12⟩
     ·have tk:(linesOf t).take (i+1)=(linesOf t).take i++[partsOf l]:=by rw [List.take_add_one,el]; rfl
      rw [hL12,tk,List.map_append,List.map_append]
      rfl
     ·rw [h12,List.map_append]
      rfl
    ·walk_at "rd"
     refine ⟨by show 1≤1000; omega,fun d hd=>?_⟩
     have eb:readE (linesOf t)=.inl i:=by
      unfold readE
      rw [runE_bad hq el (by rw [Nat.zero_add]; exact es),Nat.zero_add]
     have E10:Ev TS [] H H10:=Ev.trans E9 e10 ⟨.inr nRH,.inr ng,.inr np,.inr nb,.inr npl',trivial⟩
     exact k2 i eb d _ (Ev.trans E10 (Ev.new hd) trivial) upd_same
  ·rintro σ H6 ⟨v5,v6,v7,v8,v9,v10,rfl,q,qpl',asc,hq,E6,ra6,npl',hL6,hS6,gs6,hs6⟩
   rw [List.length_map,← hll,List.take_length] at hq hL6
   have hx6:H6 x=some (.ins CP dx []):=ev_ins E6 hx trivial
   obtain ⟨dxr,qd,ql,as,hR6,hg6,ga6,hp6,hd6,hb6,hl6,hpl6,n1,n2⟩:=_root_.id ra6
   have rbi:=runL_RB RB.init hq
   walk_at "rd"
   refine ⟨R,CR,dxr,_,_,rfl,hR6,T.ckR,T.ra _ (by simp),l_blocks,?_⟩
   walk_at "rd"
   refine ⟨by show 0≤sizeLine; decide,fun e0 he0=>?_⟩
   generalize hX:upd _ e0 _=H7
   obtain ⟨e7,h7⟩:=new_facts (TS:=TS) hX he0
   clear hX
   walk_at "rs"
   refine a_neSL (xs:=q.2.bl) (ys:=[]) (SqL.of (ev_lst e7 hb6 trivial)) (SqL.of h7) rbi.sb strsOk_nil ?_
   walk_at "rd"
   have hL7:=ev_lst e7 hL6 trivial
   have E7:=Ev.trans E6 e7 trivial
   refine ite2 (fun c=>?_) (fun c=>?_)
   ·have hbl:¬ q.2.bl=[]:=of_decide_eq_false (bnf c)
    walk_at "rd"
    refine ⟨D1,_,rfl,.inl (SqL.of hL7),?_⟩
    walk_at "rd"
    refine ⟨by show 1≤1000; omega,fun d hd=>?_⟩
    have eb:readE (linesOf t)=.inl (linesOf t).length:=by
     unfold readE
     rw [runE_good hq]
     show (if q.2.bl=[] then _ else _)=_
     rw [if_neg hbl]
    have hll':((((linesOf t).map lineS).map V.str).length:Int)=((linesOf t).length:Int):=by rw [List.length_map,List.length_map]
    refine k2 _ eb d _ (Ev.trans E7 (Ev.new hd) trivial) ?_
    rw [upd_same,hll']
    rfl
   ·have hbl:q.2.bl=[]:=of_decide_eq_true (btf c)
    have eb:readE (linesOf t)=.inr q:=by
     unfold readE
     rw [runE_good hq]
     show (if q.2.bl=[] then _ else _)=_
     rw [if_pos hbl]
    have kk:=k1 q eb
    have hS7:=ev_lst e7 hS6 trivial
    have gs7:=gs6.ev e7
    have hR7:=ev_ins e7 hR6 trivial
    have hg7:=ev_lst e7 hg6 trivial
    have ga7:=ga6.ev e7
    have hx7:H7 x=some (.ins CP dx []):=ev_ins e7 hx6 trivial
    clear k1 k2 hL6 hS6 gs6 hR6 hg6 ga6 hx6 e7 h7 E6 he0 ra6 hp6 hd6 hb6 hl6 hpl6 hs6
    walk_at "rd"
    refine ⟨D1,_,rfl,.inl ⟨SqL.of hL7,fun pl hpl'=>?_⟩⟩
    generalize hX:upd _ pl _=H8
    obtain ⟨e8,h8⟩:=new_facts (TS:=TS) hX hpl'
    clear hX
    walk_at "rs"
    walk_at "rd"
    have hx8:H8 x=_:=ev_ins e8 hx7 trivial
    refine ⟨x,CP,dx,_,rfl,hx8,T.ckP,T.rp _ (by simp),(by show 0 < 1000; decide),?_⟩
    generalize hX:upd _ x _=H9
    obtain ⟨e9,h9⟩:=setI_facts (TS:=TS) hX hx8
    clear hX
    walk_at "rs"
    walk_at "rd"
    have hS9:H9 D2=some (.lst (asc.map V.ref)):=(by walk_at "t")
    refine ⟨D2,_,rfl,.inl ⟨SqL.of hS9,fun ps hps'=>?_⟩⟩
    generalize hX:upd _ ps _=H10
    obtain ⟨e10,h10⟩:=new_facts (TS:=TS) hX hps'
    clear hX
    walk_at "rs"
    walk_at "rd"
    have hx10:H10 x=_:=ev_ins e10 h9 trivial
    refine ⟨x,CP,dx,_,rfl,hx10,T.ckP,T.rp _ (by simp),(by show 1 < 1000; decide),?_⟩
    generalize hX:upd _ x _=H11
    obtain ⟨e11,h11⟩:=setI_facts (TS:=TS) hX hx10
    clear hX
    walk_at "rs"
    walk_at "rd"
    have xR:NeH H7 R x:=fun z=>nRH (z ▸ Al.ins hx)
    have hR11:H11 R=some (.ins CR dxr (rdF qg qp qd qb ql qpl' q.2.st)):=ev_ins e11 (ev_ins e10 (ev_ins e9 (ev_ins e8 hR7 trivial) ⟨xR,trivial⟩) trivial) ⟨xR,trivial⟩
    refine ⟨R,CR,dxr,_,_,rfl,hR11,T.ckR,T.ra _ (by simp),l_groups,?_⟩
    walk_at "rd"
    have hg11:H11 qg=some (.lst (as.map V.ref)):=(by walk_at "t")
    refine ⟨qg,_,rfl,.inl ⟨SqL.of hg11,fun pg hpg=>?_⟩⟩
    generalize hX:upd _ pg _=H12
    obtain ⟨e12,h12⟩:=new_facts (TS:=TS) hX hpg
    clear hX
    walk_at "rs"
    walk_at "rd"
    have hx12:H12 x=_:=ev_ins e12 h11 trivial
    refine ⟨x,CP,dx,_,rfl,hx12,T.ckP,T.rp _ (by simp),(by show 2 < 1000; decide),?_⟩
    generalize hX:upd _ x _=H13
    obtain ⟨e13,h13⟩:=setI_facts (TS:=TS) hX hx12
    clear hX
    walk_at "rs"
    walk_at "rd"
    have hR13:H13 R=some (.ins CR dxr (rdF qg qp qd qb ql qpl' q.2.st)):=ev_ins e13 (ev_ins e12 hR11 trivial) ⟨xR,trivial⟩
    refine ⟨R,CR,dxr,_,_,rfl,hR13,T.ckR,T.ra _ (by simp),l_groups,?_⟩
    walk_at "rd"
    have hg13:H13 qg=some (.lst (as.map V.ref)):=(by walk_at "t")
    have ga13:=(((((ga7.ev e8).ev e9).ev e10).ev e11).ev e12).ev e13
    refine ⟨⟨_,SqL.of hg13⟩,fun D hD=>wk_gen walk_list (fun i H'=>Ev TS [] H13 H'∧H' D=some (.lst ((q.2.gs.take i).flatten.map V.str))) ⟨Ev.new hD,upd_same⟩ (fun i H' _ hI=>ev_sqL hI.1 (SqL.of hg13) trivial) ?_ ?_⟩
    ·rintro i y H14 H15 hi ⟨e14,hD4⟩ ⟨rfl,hy⟩
     have hi':i < as.length:=by simpa using hi
     rw [List.getElem?_map,List.getElem?_eq_getElem hi'] at hy
     obtain rfl:=Option.some.inj hy
     obtain ⟨g,hg',hta⟩:=ga13.get (List.getElem?_eq_getElem hi')
     have nD:NA H13 D:=.of hD
     walk_at "rd"
     refine ⟨⟨_,SqT.of (ev_tup e14 hta)⟩,wk_gen walk_tup (fun j H'=>Ev TS [] H13 H'∧H' D=some (.lst (((q.2.gs.take i).flatten++g.take j).map V.str))) ⟨e14,by rw [hD4]; simp⟩ (fun j H' _ hI=>SqT.of (ev_tup hI.1 hta)) ?_ ?_⟩
     ·rintro j y H16 H17 hj ⟨e16,hD6⟩ ⟨rfl,hy⟩
      have hj':j < g.length:=by simpa using hj
      rw [List.getElem?_map,List.getElem?_eq_getElem hj'] at hy
      obtain rfl:=Option.some.inj hy
      walk_at "rd"
      have le:=flat_takeLe q.2.gs hg' (Nat.le_of_lt hj')
      have le2:=flat_le rbi.g3 rbi.gs
      refine ⟨_,hD6,by rw [List.length_map]; exact lt_line (by rw [hll] at le2; omega),Ev.trans e16 (Ev.setL hD6) ⟨.inr nD,trivial⟩,?_⟩
      have tk:g.take (j+1)=g.take j++[g[j]]:=by
       rw [List.take_add_one,List.getElem?_eq_getElem hj']
       rfl
      rw [upd_same,tk,← List.append_assoc,List.map_append (l₁:=(q.2.gs.take i).flatten++g.take j)]
      rfl
     ·rintro H16 ⟨e16,hD6⟩
      refine ⟨e16,?_⟩
      rw [hD6,List.length_map,List.take_length,flat_take hg']
    ·rintro H14 ⟨e14,hD4⟩
     rw [List.length_map,ga13.len,List.take_length] at hD4
     walk_at "rd"
     refine ⟨D,_,rfl,.inl ⟨SqL.of hD4,fun pn H15 hpn heq hfz=>?_⟩⟩
     have e15:Ev TS [] H14 H15:=Ev.same (fun b o z=>by rw [heq b (ne_of_none z hpn)]; exact z)
     walk_at "rd"
     have hx15:H15 x=_:=ev_ins e15 (ev_ins e14 h13 trivial) trivial
     refine ⟨x,CP,dx,_,rfl,hx15,T.ckP,T.rp _ (by simp),(by show 3 < 1000; decide),?_⟩
     generalize hX:upd _ x _=H16
     obtain ⟨e16,h16⟩:=setI_facts (TS:=TS) hX hx15
     clear hX
     walk_at "rs"
     have gs16:=((((((((gs7.ev e8).ev e9).ev e10).ev e11).ev e12).ev e13).ev e14).ev e15).ev e16
     have ga16:=((ga13.ev e14).ev e15).ev e16
     refine kk H16 ?_ ⟨dx,pl,ps,pg,pn,asc,as,?_,(by walk_at "t"),(by walk_at "t"),gs16,(by walk_at "t"),ga16,ev_fzT e16 hfz⟩
     ·have L:=Ev.trans (Ev.trans (Ev.trans (Ev.trans (Ev.trans (Ev.trans (E7.mono (L1:=[x]) (by simp)) e8 trivial) e9 ⟨.inl (by simp),trivial⟩) e10 trivial) e11 ⟨.inl (by simp),trivial⟩) e12 trivial) e13 ⟨.inl (by simp),trivial⟩
      exact Ev.trans (Ev.trans (Ev.trans L e14 trivial) e15 trivial) e16 ⟨.inl (by simp),trivial⟩
     ·rw [h16]
      kernel_rfl
end
theorem PgAt.ev {TS:List (Addr × Str)} {K:PySem.W.Frag} {CP:Addr} {L:List Addr} {H H':Hp} {x:Addr} {lns:List Str} {scs gs:List Ps} (h:PgAt K CP H x lns scs gs) (e:Ev TS L H H') (n:Nin H x L):PgAt K CP H' x lns scs gs:=by
 obtain ⟨dx,ql,qs,qg,qn,asc,ag,h1,h2,h3,h4,h5,h6,h7⟩:=h
 exact ⟨dx,ql,qs,qg,qn,asc,ag,ev_ins e h1 n,ev_tup e h2,ev_tup e h3,h4.ev e,ev_tup e h5,h6.ev e,ev_fzT e h7⟩
theorem PgAt.isI {K:PySem.W.Frag} {CP:Addr} {H:Hp} {x:Addr} {lns:List Str} {scs gs:List Ps} (h:PgAt K CP H x lns scs gs):isI H x:=by
 obtain ⟨dx,ql,qs,qg,qn,asc,ag,h1,_⟩:=h
 exact isI.of h1
open TL (numL numL_lt numL_step tl_num)
def firstL:List Nat:=[104,106,113,117,118,119,120,121,122]
def Low (c:Nat):Prop:=97≤c∧c≤122
def NmOk (z:Str):Prop:=∃ (c:Nat) (cs:List Nat),z.cps.toList=c :: cs∧c∈firstL∧(∀ d∈c :: cs,Low d)∧cs.length≤7
theorem app_cps (a b:Str):(a++b).cps.toList=a.cps.toList++b.cps.toList:=by
 show (a.cps++b.cps).toList=_
 rw [Array.toList_append]
theorem str_ext {a b:Str} (h:a.cps.toList=b.cps.toList):a=b:=by
 cases a
 cases b
 congr 1
 exact Array.toList_inj.mp h
theorem NmOk.len {z:Str} (h:NmOk z):1≤z.length∧z.length≤8:=by
 obtain ⟨c,cs,e,_,_,hl⟩:=h
 rw [← len_cps,e,List.length_cons]
 omega
theorem nodup_le {α:Type} [DecidableEq α]:∀ {l m:List α},l.Nodup→(∀ x∈l,x∈m)→l.length≤m.length
 | [],_,_,_=>Nat.zero_le _
 | x :: l,m,nd,h=>by
  rw [List.nodup_cons] at nd
  have hx:=h x List.mem_cons_self
  have ih:=nodup_le (l:=l) (m:=m.erase x) nd.2 fun y hy=>by
   have hne:y≠x:=fun e=>nd.1 (e ▸ hy)
   exact (List.mem_erase_of_ne hne).mpr (h y (List.mem_cons_of_mem _ hy))
  rw [List.length_erase_of_mem hx] at ih
  have:=List.length_pos_of_mem hx
  rw [List.length_cons]
  omega
theorem cut7_cps (z:Str):(cutS z none (some 7)).cps.toList=z.cps.toList.take 7:=by
 unfold cutS
 rw [HT.sIx_none,show (7:Int)=((7:Nat):Int) from rfl,HT.sIx_nat,List.drop_zero,Nat.sub_zero]
 show (z.cps.toList.take (min 7 z.length)).toArray.toList=_
 rw [show (z.cps.toList.take (min 7 z.length)).toArray.toList=z.cps.toList.take (min 7 z.length) from rfl,← len_cps]
 by_cases h:7≤z.cps.toList.length
 ·rw [Nat.min_eq_left h]
 ·rw [Nat.min_eq_right (by omega),List.take_length,List.take_of_length_le (by omega)]
def relet (z:Str) (c:Nat):Str:=cutS z none (some 7) ++ ⟨#[c]⟩
theorem relet_cps (z:Str) (c:Nat):(relet z c).cps.toList=z.cps.toList.take 7++[c]:=by
 unfold relet
 rw [app_cps,cut7_cps]
theorem relet_len (z:Str) (c:Nat):(cutS z none (some 7)).length≤7:=by
 rw [← len_cps,cut7_cps,List.length_take]
 omega
theorem relet_inj {z:Str} {c d:Nat} (h:relet z c=relet z d):c=d:=by
 have:=congrArg (fun s:Str=>s.cps.toList) h
 simp only [relet_cps] at this
 have:=List.append_cancel_left this
 simpa using this
theorem let_low {c:Nat} (h:c∈LET.cps.toList):Low c:=by
 have k:∀ d∈LET.cps.toList,97≤d∧d≤122:=by decide +kernel
 exact k c h
def othersL (z:Str) (ps:Ps) (cs:List Nat):Ps:=(cs.filter fun c=>!decide (relet z c∈ps)).map (relet z)
theorem others_mem {z x:Str} {ps:Ps} {cs:List Nat} (h:x∈othersL z ps cs):∃ c∈cs,x=relet z c∧x∉ps:=by
 unfold othersL at h
 obtain ⟨c,hc,rfl⟩:=List.mem_map.mp h
 obtain ⟨h1,h2⟩:=List.mem_filter.mp hc
 exact ⟨c,h1,rfl,by simpa using h2⟩
def PFree (z:Str):Prop:=1≤z.length∧z.length≤20∧∀ c∈z.cps.toList,33≤c∧c≤122
theorem NmOk.free {z:Str} (h:NmOk z):PFree z:=by
 refine ⟨h.len.1,by have:=h.len; omega,fun c hc=>?_⟩
 obtain ⟨d,ds,e,_,hl,_⟩:=h
 rw [e] at hc
 have:=hl c hc
 unfold Low at this
 omega
def isS (H:Hp) (p:Addr):Prop:=∃ z zs,H p=some (.lst (V.str z :: zs))
def NoS (H:Hp):List Addr→Prop
 | []=>True
 | p :: L=>¬ isS H p∧NoS H L
theorem NoS.no {H:Hp}:∀ {L:List Addr},NoS H L→∀ p∈L,¬ isS H p
 | [],_,p,h=>absurd h List.not_mem_nil
 | q :: L,h,p,hp=>(List.mem_cons.mp hp).elim (fun e=>e ▸ h.1) fun e=>NoS.no h.2 p e
theorem noS_bag {H:Hp} {b:Addr} {n:Nat} (h:BagB H b n):¬ isS H b:=by
 rintro ⟨z,zs,e⟩
 obtain ⟨l,e1,e2⟩:=h
 rw [e1] at e
 obtain rfl:=HO.lst.inj (Option.some.inj e)
 obtain ⟨x,y,w,e3,_⟩:=e2
 cases e3
inductive LS (H:Hp):List Addr→List Ps→Prop
 | nil:LS H [] []
 | cons {a:Addr} {as:List Addr} {g:Ps} {gs:List Ps}:H a=some (.lst (g.map V.str))→g≠[]→LS H as gs→LS H (a :: as) (g :: gs)
theorem LS.len {H:Hp}:∀ {as:List Addr} {gs:List Ps},LS H as gs→as.length=gs.length
 | _,_,.nil=>rfl
 | _,_,.cons _ _ r=>congrArg Nat.succ r.len
theorem isS.of {H:Hp} {a:Addr} {g:Ps} (h:H a=some (.lst (g.map V.str))) (n:g≠[]):isS H a:=by
 cases g with
 | nil=>exact absurd rfl n
 | cons z zs=>exact ⟨z,_,h⟩
theorem nin_of {H:Hp} {a:Addr}:∀ {L:List Addr},isS H a→NoS H L→Nin H a L
 | [],_,_=>trivial
 | p :: L,h,n=>⟨fun e=>n.1 (e ▸ h),nin_of h n.2⟩
theorem LS.ev {TS:List (Addr × Str)} {L:List Addr} {H H':Hp} (e:Ev TS L H H') (n:NoS H L):∀ {as:List Addr} {gs:List Ps},LS H as gs→LS H' as gs
 | _,_,.nil=>.nil
 | _,_,.cons h hn r=>.cons (ev_lst e h (nin_of (isS.of h hn) n)) hn (r.ev e n)
theorem LS.snoc {H:Hp} {a:Addr} {g:Ps} (h:H a=some (.lst (g.map V.str))) (hn:g≠[]):∀ {as:List Addr} {gs:List Ps},LS H as gs→LS H (as++[a]) (gs++[g])
 | _,_,.nil=>.cons h hn .nil
 | _,_,.cons h' n' r=>.cons h' n' (r.snoc h hn)
theorem LS.app {H:Hp}:∀ {as bs:List Addr} {gs hs:List Ps},LS H as gs→LS H bs hs→LS H (as++bs) (gs++hs)
 | _,_,_,_,.nil,h=>h
 | _,_,_,_,.cons h' n' r,h=>.cons h' n' (r.app h)
theorem LS.get {H:Hp}:∀ {as:List Addr} {gs:List Ps} {i:Nat} {a:Addr},LS H as gs→as[i]? = some a→∃ g,gs[i]? = some g∧H a=some (.lst (g.map V.str))∧g≠[]
 | _,_,_,_,.nil,e=>by simp at e
 | _,_,0,a,.cons h n _,e=>by
  obtain rfl:=Option.some.inj e
  exact ⟨_,rfl,h,n⟩
 | _,_,i+1,a,.cons _ _ r,e=>by
  obtain ⟨g,h1,h2⟩:=r.get (i:=i) (by simpa using e)
  exact ⟨g,by simpa using h1,h2⟩
def LQ (H:Hp) (p:Addr) (lls:List Ps):Prop:=∃ as,H p=some (.lst (as.map V.ref))∧LS H as lls
theorem LQ.ev {TS:List (Addr × Str)} {L:List Addr} {H H':Hp} {p:Addr} {lls:List Ps} (h:LQ H p lls) (e:Ev TS L H H') (n:NoS H L) (np:Nin H p L):LQ H' p lls:=by
 obtain ⟨as,h1,h2⟩:=h
 exact ⟨as,ev_lst e h1 np,h2.ev e n⟩
theorem LQ.al {H:Hp} {p:Addr} {lls:List Ps} (h:LQ H p lls):Al H p:=by
 obtain ⟨as,h1,h2⟩:=h
 exact Al.lst h1
abbrev Pls:=List (Str × Str)
structure SR (s:RS) (gs:List Ps) (d:Pls) (bl:List Str):Prop where
 g:s.gs=gs
 l:s.ls=gs.flatten
 b:s.bl=bl
 p:s.pl=d
theorem SR.begun {s:RS} {gs:List Ps} {d:Pls} {bl:List Str} (h:SR s gs d bl):SR (begun s) gs d bl:=by
 unfold MV.begun
 split
 ·exact ⟨h.g,h.l,h.b,h.p⟩
 ·exact h
def Seg (gs:List Ps) (d:Pls) (bl:List Str) (lls:List Ps) (d':Pls) (bl':List Str):Prop:=∀ (s:RS) (k:Nat),SR s gs d bl→1≤k→∃ q,runL s k lls=some q∧SR q.2 gs d' bl'
theorem Seg.nil {gs:List Ps} {d:Pls} {bl:List Str}:Seg gs d bl [] d bl:=fun s k h _=>⟨([],s),rfl,h⟩
theorem Seg.app {gs:List Ps} {d d1 d2:Pls} {bl b1 b2:List Str} {l m:List Ps} (x:Seg gs d bl l d1 b1) (y:Seg gs d1 b1 m d2 b2):Seg gs d bl (l++m) d2 b2:=by
 intro s k h hk
 obtain ⟨q,e,h1⟩:=x s k h hk
 obtain ⟨q2,e2,h2⟩:=y q.2 (k+l.length) h1 (by omega)
 refine ⟨(q.1++q2.1,q2.2),?_,h2⟩
 rw [runL_app,e]
 show (runL q.2 (k+l.length) m).map _=_
 rw [e2]
 rfl
theorem Seg.one {gs:List Ps} {d d1:Pls} {bl b1:List Str} {ps:Ps} (h:∀ (s:RS) (k:Nat),SR s gs d bl→1≤k→∃ s',accLine s k ps=some s'∧SR s' gs d1 b1):Seg gs d bl [ps] d1 b1:=by
 intro s k hs hk
 obtain ⟨s',e,h1⟩:=h s k hs hk
 refine ⟨([s'.ls],s'),?_,h1⟩
 show (match accLine s k ps with | none=>none | some s'=>match runL s' (k+1) [] with | none=>none | some (sc,s2)=>some (s'.ls :: sc,s2):Option (List Ps × RS))=_
 rw [e]
 rfl
structure LnF (ps:Ps):Prop where
 n:ps≠[]
 l:ps.length≤6
 f:∀ z∈ps,PFree z
open TL (tl ext_tl tl_append)
theorem tl_sp:tl sp1=[32]:=by decide +kernel
theorem tl_nl:tl nl1=[10]:=by decide +kernel
theorem sp_k:sp1.cps.all (· < 256)=true:=by decide +kernel
theorem nl_k:nl1.cps.all (· < 256)=true:=by decide +kernel
theorem PFree.sp {z:Str} (h:PFree z):32∉tl z:=fun hc=>by
 have:=h.2.2 32 hc
 omega
theorem PFree.ne {z:Str} (h:PFree z):¬ z=Str.ofString "":=by
 rintro rfl
 have:=h.1
 revert this
 decide +kernel
def spaces (k:Nat):Str:=⟨(List.replicate k 32).toArray⟩
structure SpOf (z:Str) (ps:Ps):Prop where
 p:partsOf z=ps
 l:z.length≤300
 c:∀ c∈tl z,32≤c∧c≤122
theorem join_tl {y:Str}:∀ {qs:List Str} {c:Nat},c∈tl (Str.join y qs)→c∈tl y∨∃ q∈qs,c∈tl q
 | [],c,h=>by cases h
 | [x],c,h=>.inr ⟨x,by simp,h⟩
 | x :: z :: r,c,h=>by
  have h':c∈tl (x++y++Str.join y (z :: r)):=h
  rw [tl_append,tl_append] at h'
  rcases List.mem_append.mp h' with h1 | h1
  ·rcases List.mem_append.mp h1 with h2 | h2
   ·exact .inr ⟨x,by simp,h2⟩
   ·exact .inl h2
  ·rcases join_tl h1 with h2 | ⟨q,hq,h2⟩
   ·exact .inl h2
   ·exact .inr ⟨q,List.mem_cons_of_mem _ hq,h2⟩
theorem join_len {y:Str} {m:Nat}:∀ {qs:List Str},(∀ q∈qs,q.length≤m)→(Str.join y qs).length≤qs.length * (m+y.length)
 | [],_=>Nat.zero_le _
 | [x],h=>by
  have:=h x (by simp)
  show x.length≤_
  simp only [List.length_singleton,Nat.one_mul]
  omega
 | x :: z :: r,h=>by
  have h1:=h x (by simp)
  have h2:=join_len (y:=y) (qs:=z :: r) (fun q hq=>h q (List.mem_cons_of_mem _ hq))
  show (x++y++Str.join y (z :: r)).length≤_
  rw [app_len,app_len,List.length_cons,Nat.add_mul,Nat.one_mul]
  omega
theorem lineS_split {ps:Ps} (h:LnF ps):Txt.split (lineS ps) sp1=ps:=TL.split_join tl_sp sp_k h.n fun p hp=>(h.f p hp).sp
theorem lineS_of {ps:Ps} (h:LnF ps):SpOf (lineS ps) ps:=by
 refine ⟨?_,?_,fun c hc=>?_⟩
 ·unfold partsOf
  rw [lineS_split h,List.filter_eq_self]
  intro z hz
  rw [decide_eq_false (h.f z hz).ne]
  rfl
 ·unfold lineS
  rw [TL.join_eq]
  have:=join_len (y:=sp1) (m:=20) (qs:=ps) fun q hq=>(h.f q hq).2.1
  have h6:=h.l
  have e:sp1.length=1:=by decide +kernel
  rw [e] at this
  omega
 ·unfold lineS at hc
  rw [TL.join_eq] at hc
  rcases join_tl hc with h1 | ⟨q,hq,h1⟩
  ·rw [tl_sp] at h1
   rw [List.mem_singleton.mp h1]
   omega
  ·have:=(h.f q hq).2.2 c h1
   omega
def SpsOf (zs:List Str) (lls:List Ps):Prop:=zs.length=lls.length∧∀ (i:Nat) (z:Str) (ps:Ps),zs[i]? = some z→lls[i]? = some ps→SpOf z ps
theorem ok_of_rng {z:Str} (h:∀ c∈tl z,c≤122):PyData.strOk z=true:=by
 show z.cps.all (fun c=>decide (c < 0x110000))=true
 rw [Array.all_eq_true']
 intro c hc
 have:=h c (by simpa using hc)
 exact decide_eq_true (by omega)
theorem SpsOf.tok {zs:List Str} {lls:List Ps} (h:SpsOf zs lls) (hl:lls.length≤60):TOk (Txt.join nl1 zs):=by
 have hz:∀ z∈zs,∃ ps,SpOf z ps:=fun z hz=>by
  obtain ⟨i,hi,e⟩:=List.getElem_of_mem hz
  have hi':i < lls.length:=by have:=h.1; omega
  exact ⟨lls[i],h.2 i z _ (by rw [List.getElem?_eq_getElem hi,e]) (List.getElem?_eq_getElem hi')⟩
 rw [TL.join_eq]
 refine ⟨?_,ok_of_rng fun c hc=>?_⟩
 ·have:=join_len (y:=nl1) (m:=300) (qs:=zs) fun q hq=>(hz q hq).elim fun _ h=>h.l
  have e:nl1.length=1:=by decide +kernel
  rw [e,h.1] at this
  have:lls.length * 301≤60 * 301:=Nat.mul_le_mul_right _ hl
  omega
 ·rcases join_tl hc with h1 | ⟨q,hq,h1⟩
  ·rw [tl_nl] at h1
   rw [List.mem_singleton.mp h1]
   omega
  ·obtain ⟨ps,hs⟩:=hz q hq
   exact (hs.c c h1).2
theorem SpsOf.plain {lls:List Ps} (h:∀ ps∈lls,LnF ps):SpsOf (lls.map lineS) lls:=by
 refine ⟨List.length_map _,fun i z ps h1 h2=>?_⟩
 rw [List.getElem?_map,h2] at h1
 obtain rfl:=Option.some.inj h1
 exact lineS_of (h ps (List.mem_of_getElem? h2))
abbrev R04:=List Ps × Option Nat
def pr04_1 (a b x f g p q:Str):List R04:=[([[("define" : Str),f,x],[("take" : Str),p,("spot" : Str),x],[("end" : Str)]],none),([[("define" : Str),f,x],[("take" : Str),p,("spot" : Str),x],[("end" : Str)],[("cut" : Str),a,p]],some 4),([[("define" : Str),f,x],[("take" : Str),p,("spot" : Str),x],[("end" : Str)],[("take" : Str),p,("turn" : Str),a],[("move" : Str),b,p]],none)]
def pr04_2 (a b x f g p q:Str):List R04:=pr04_1 a b x f g p q++[([[("define" : Str),f,x],[("move" : Str),x,p]],some 2),([[("define" : Str),f,x],[("take" : Str),p,("spot" : Str),x],[("end" : Str)],[("define" : Str),f,a]],some 4)]
def pr04_3 (a b x f g p q:Str):List R04:=pr04_2 a b x f g p q++[([[("define" : Str),f,x],[("take" : Str),p,("turn" : Str),a]],some 2),([[("define" : Str),f,x],[("call" : Str),f,x]],some 2)]
def pr04_4 (a b x f g p q:Str):List R04:=pr04_3 a b x f g p q++[([[("define" : Str),f,a],[("take" : Str),p,("turn" : Str),a],[("end" : Str)],[("call" : Str),f,b]],none)]
def pr04_5 (a b x f g p q:Str):List R04:=pr04_4 a b x f g p q++[([[("define" : Str),f,x],[("take" : Str),p,("spot" : Str),x],[("end" : Str)],[("call" : Str),f,a,b]],some 4),([[("define" : Str),f,x],[("take" : Str),p,("spot" : Str),x],[("end" : Str)],[("call" : Str),f,a]],none)]
def pr04_6 (a b x f g p q:Str):List R04:=pr04_5 a b x f g p q++[([[("define" : Str),f,x],[("take" : Str),p,("spot" : Str),x],[("end" : Str)],[("call" : Str),g,a]],some 4)]
def pr04_8 (a b x f g p q:Str):List R04:=pr04_6 a b x f g p q++[([[("define" : Str),f,x,a],[("take" : Str),a,("order" : Str),a,("down" : Str)],[("move" : Str),x,a],[("end" : Str)],[("call" : Str),f,a,a]],none),([[("define" : Str),f,x,a],[("take" : Str),a,("order" : Str),a,("down" : Str)],[("move" : Str),x,a],[("end" : Str)],[("call" : Str),f,a]],some 5)]
def pr04_9 (a b x f g p q:Str):List R04:=pr04_8 a b x f g p q++[([[("define" : Str),f,x,a],[("take" : Str),a,("order" : Str),a,("down" : Str)],[("move" : Str),x,a],[("end" : Str)],[("call" : Str),f,x,a]],some 5)]
def pr04_10 (a b x f g p q:Str):List R04:=pr04_9 a b x f g p q++[([[("define" : Str),f,x,a],[("take" : Str),a,("order" : Str),a,("down" : Str)],[("move" : Str),x,a],[("end" : Str)],[("define" : Str),g,p],[("call" : Str),f,p,p],[("end" : Str)],[("call" : Str),g,b]],none)]
def pr04_11 (a b x f g p q:Str):List R04:=pr04_10 a b x f g p q++[([[("define" : Str),f,x],[("define" : Str),g,x]],some 2),([[("check" : Str)],[("define" : Str),f,x]],some 2)]
def pr04_12 (a b x f g p q:Str):List R04:=pr04_11 a b x f g p q++[([[("maybe" : Str)],[("define" : Str),f,x]],some 2),([[("define" : Str),f,x],[("take" : Str),p,("spot" : Str),x],[("end" : Str)],[("end" : Str)]],some 4),([[("define" : Str),f,x],[("take" : Str),p,("spot" : Str),x],[("end" : Str)],[("else" : Str)]],some 4)]
def pr04_14 (a b x f g p q:Str):List R04:=pr04_12 a b x f g p q++[([[("define" : Str),f,x,a],[("take" : Str),a,("order" : Str),a,("down" : Str)],[("move" : Str),x,a],[("end" : Str)],[("define" : Str),g,p],[("call" : Str),f,p,p],[("end" : Str)],[("define" : Str),q,g],[("call" : Str),g,g],[("end" : Str)],[("call" : Str),q,a]],none)]
def pr04_15 (a b x f g p q:Str):List R04:=pr04_14 a b x f g p q++[([[("define" : Str),f,x,x]],some 1),([[("define" : Str),f]],some 1),([[("define" : Str),f,x,a,b],[("end" : Str)]],none)]
def pr04_16 (a b x f g p q:Str):List R04:=pr04_15 a b x f g p q++[([[("define" : Str),f,x],[("take" : Str),p,("spot" : Str),x],[("end" : Str)],[("take" : Str),q,("turn" : Str),x]],some 4),([[("define" : Str),f,x],[("take" : Str),p,("spot" : Str),x],[("take" : Str),p,("turn" : Str),x],[("end" : Str)]],some 3)]
def pl04_1 (a b p q:Str):List R04:=[([[("take" : Str),p,("spot" : Str),a],[("move" : Str),a,p]],some 2),([[("take" : Str),p,("turn" : Str),b],[("cut" : Str),a,p]],some 2),([[("take" : Str),p,("turn" : Str),b],[("set" : Str),a,p,("5" : Str)]],some 2)]
def pl04_2 (a b p q:Str):List R04:=pl04_1 a b p q++[([[("take" : Str),p,("spot" : Str),a],[("take" : Str),p,("turn" : Str),b]],some 2),([[("take" : Str),p,("turn" : Str),b],[("take" : Str),p,("spot" : Str),a]],some 2),([[("take" : Str),p,("turn" : Str),b],[("take" : Str),p,("new" : Str),a,("any" : Str)],[("move" : Str),b,p]],none)]
def pl04_3 (a b p q:Str):List R04:=pl04_2 a b p q++[([[("take" : Str),p,("spot" : Str),a],[("take" : Str),p,("spot" : Str),b,("!=" : Str),("0" : Str)],[("set" : Str),b,p,("0" : Str)]],none),([[("move" : Str),a,p],[("take" : Str),p,("turn" : Str),b]],some 1)]
def pl04_4 (a b p q:Str):List R04:=pl04_3 a b p q++[([[("maybe" : Str)],[("take" : Str),p,("turn" : Str),b],[("end" : Str)],[("move" : Str),a,p]],none),([[("repeat" : Str)],[("move" : Str),a,p],[("take" : Str),p,("turn" : Str),b],[("end" : Str)]],some 2)]
def pl04_5 (a b p q:Str):List R04:=pl04_4 a b p q++[([[("guard" : Str)],[("take" : Str),p,("spot" : Str),a],[("else" : Str)]],some 3),([[("maybe" : Str)],[("else" : Str)],[("take" : Str),p,("spot" : Str),a],[("end" : Str)],[("cut" : Str),b,p]],none)]
def pl04_6 (a b p q:Str):List R04:=pl04_5 a b p q++[([[("take" : Str),a,("turn" : Str),a],[("move" : Str),b,a]],none),([[("take" : Str),q,("order" : Str),a],[("move" : Str),a,b]],some 2)]
def pl04_7 (a b p q:Str):List R04:=pl04_6 a b p q++[([[("take" : Str),p,("keep" : Str),a,("=" : Str),("0" : Str)]],none),([[("take" : Str),p,("spot" : Str),a],[("set" : Str),a,p,("0" : Str)]],none),([[("take" : Str),p,("keep" : Str),a,("=" : Str),("00" : Str)]],some 1),([[("take" : Str),p,("spot" : Str),a],[("set" : Str),a,p,("00" : Str)]],some 2),([[("take" : Str),p,("keep" : Str),a,("=" : Str),("99999999999999999999" : Str)]],none),([[("take" : Str),p,("spot" : Str),a],[("set" : Str),a,p,("99999999999999999999" : Str)]],none),([[("take" : Str),p,("keep" : Str),a,("=" : Str),("100000000000000000000" : Str)]],some 1),([[("take" : Str),p,("spot" : Str),a],[("set" : Str),a,p,("100000000000000000000" : Str)]],some 2),([[("take" : Str),p,("keep" : Str),a,("=" : Str),("10" : Str)]],none),([[("take" : Str),p,("spot" : Str),a],[("set" : Str),a,p,("10" : Str)]],none)]
def pl04_8 (a b p q:Str):List R04:=pl04_7 a b p q++[([[("take" : Str),p,("turn" : Str),b],[("move" : Str),a,p,p]],some 2),([[("take" : Str),p,("spot" : Str),a],[("cut" : Str),a,p,("5" : Str)]],some 2),([[("take" : Str),p,("spot" : Str),a],[("set" : Str),a,p]],some 2)]
def pl04_9 (a b p q:Str):List R04:=pl04_8 a b p q++[([[("take" : Str),p,("spot" : Str),a],[("set" : Str),a,p,("5" : Str),("6" : Str)]],some 2),([[("pour" : Str),a,("into" : Str),b,b]],some 1),([[("pour" : Str),a,("into" : Str),a]],none)]
def pl04_10 (a b p q:Str):List R04:=pl04_9 a b p q++[([[("take" : Str),p,("order" : Str),a,("down" : Str),("down" : Str)]],some 1),([[("take" : Str),p,("turn" : Str),a,b]],some 1)]
def pl04_11 (a b p q:Str):List R04:=pl04_10 a b p q++[([[("take" : Str),p,("keep" : Str),a,("<" : Str),("7" : Str)]],none),([[("take" : Str),p,("keep" : Str),a,(">=" : Str),("7" : Str)]],none),([[("take" : Str),p,("keep" : Str),a,("=" : Str),("7" : Str)]],none),([[("take" : Str),p,("keep" : Str),a,("!=" : Str),("7" : Str)]],none)]
def gr04 (a b x p:Str):List R04:=[([[("lists" : Str),a,b],[("lists" : Str),x,p],[("pour" : Str),a,("into" : Str),p]],none),([[("lists" : Str),a,b],[("lists" : Str),x]],some 1),([[("lists" : Str),a,b],[("lists" : Str),x,a]],some 1),([[("lists" : Str),a],[("lists" : Str),b],[("lists" : Str),x]],some 2),([[("lists" : Str),a],[("check" : Str)],[("lists" : Str),b]],some 2),([[("lists" : Str),a,b,x],[("lists" : Str),a,p]],some 1)]
def kp04 (z:Str):List (List Ps):=[[[("lists" : Str),z]],[[("lists" : Str),("zeal" : Str)],[("lists" : Str),z]],[[("lists" : Str),("zeal" : Str)],[("define" : Str),z,("zest" : Str)],[("end" : Str)]],[[("lists" : Str),("zeal" : Str)],[("take" : Str),z,("turn" : Str),("zeal" : Str)]],[[("lists" : Str),("zeal" : Str)],[("define" : Str),("zone" : Str),z],[("end" : Str)]]]
def pfB (z:Str):Bool:=decide (1≤z.length∧z.length≤30) && z.cps.toList.all fun c=>decide (33≤c∧c≤122)
def lnB (ps:Ps):Bool:=!ps.isEmpty && (decide (ps.length≤7) && ps.all pfB)
def txB (T:List Ps):Bool:=!T.isEmpty && (decide (T.length≤20) && T.all lnB)
theorem word_pf {z:Str} (h:wordB z=true):pfB z=true:=by
 unfold wordB at h
 simp only [Bool.and_eq_true,decide_eq_true_eq,List.all_eq_true] at h
 obtain ⟨h1,_,h3⟩:=h
 unfold pfB
 rw [decide_eq_true ⟨h1.1,by omega⟩,Bool.true_and,List.all_eq_true]
 intro c hc
 have k:∀ d∈LET.cps.toList,33≤d∧d≤122:=by decide +kernel
 exact decide_eq_true (k c (h3 c hc))
theorem Ren.pf {σ:Str→Str} (h:Ren σ) {z:Str} (hz:pfB z=true):pfB (σ z)=true:=by
 cases e:wordB z with
 | false=>rw [h.fx z e]; exact hz
 | true=>exact word_pf (by rw [h.w]; exact e)
theorem Ren.tx {σ:Str→Str} (h:Ren σ) {T:List Ps} (hT:txB T=true):txB (T.map (List.map σ))=true:=by
 unfold txB at hT ⊢
 rw [Bool.and_eq_true,Bool.and_eq_true] at hT
 rw [List.length_map,List.isEmpty_map,hT.1,hT.2.1,Bool.true_and,Bool.true_and,List.all_eq_true]
 intro ps hps
 obtain ⟨qs,hq,rfl⟩:=List.mem_map.mp hps
 have hl:=List.all_eq_true.mp hT.2.2 qs hq
 unfold lnB at hl ⊢
 rw [Bool.and_eq_true,Bool.and_eq_true] at hl
 rw [List.length_map,List.isEmpty_map,hl.1,hl.2.1,Bool.true_and,Bool.true_and,List.all_eq_true]
 intro z hz
 obtain ⟨y,hy,rfl⟩:=List.mem_map.mp hz
 exact h.pf (List.all_eq_true.mp hl.2.2 y hy)
theorem tx_lines {T:List Ps} (hT:txB T=true):linesOf (Txt.join nl1 (T.map lineS))=T∧TOk (Txt.join nl1 (T.map lineS)):=by
 unfold txB at hT
 rw [Bool.and_eq_true,Bool.and_eq_true] at hT
 obtain ⟨h1,h2,h3⟩:=hT
 have hne:T≠[]:=fun e=>by rw [e] at h1; cases h1
 have h2:=of_decide_eq_true h2
 have hl:∀ ps∈T,ps≠[]∧ps.length≤7∧∀ z∈ps,1≤z.length∧z.length≤30∧∀ c∈z.cps.toList,33≤c∧c≤122:=fun ps hps=>by
  have h:=List.all_eq_true.mp h3 ps hps
  unfold lnB at h
  rw [Bool.and_eq_true,Bool.and_eq_true] at h
  refine ⟨(fun e=>by rw [e] at h; cases h.1),of_decide_eq_true h.2.1,fun z hz=>?_⟩
  have hz:=List.all_eq_true.mp h.2.2 z hz
  unfold pfB at hz
  rw [Bool.and_eq_true] at hz
  have h5:=of_decide_eq_true hz.1
  exact ⟨h5.1,h5.2,fun c hc=>of_decide_eq_true (List.all_eq_true.mp hz.2 c hc)⟩
 have lc:∀ ps∈T,∀ c∈TL.tl (lineS ps),c=32∨(33≤c∧c≤122):=fun ps hps c hc=>by
  unfold lineS at hc
  rw [TL.join_eq] at hc
  rcases join_tl hc with h | ⟨q,hq,h⟩
  ·have e:TL.tl sp1=[32]:=tl_sp
   rw [e] at h
   exact .inl (List.mem_singleton.mp h)
  ·exact .inr (((hl ps hps).2.2 q hq).2.2 c h)
 refine ⟨?_,?_,?_⟩
 ·unfold linesOf
  rw [TL.split_join tl_nl nl_k (by simpa using hne) (fun p hp=>by
   obtain ⟨ps,hps,rfl⟩:=List.mem_map.mp hp
   intro hc
   rcases lc ps hps 10 hc with h | h <;> omega),List.map_map]
  conv=>rhs; rw [← List.map_id T]
  refine List.map_congr_left fun ps hps=>?_
  show partsOf (lineS ps)=ps
  unfold partsOf lineS
  rw [TL.split_join tl_sp sp_k (hl ps hps).1 (fun p hp=>by
   intro hc
   have:=((hl ps hps).2.2 p hp).2.2 32 hc
   omega),List.filter_eq_self]
  intro z hz
  have:=((hl ps hps).2.2 z hz).1
  rw [decide_eq_false]
  ·rfl
  ·rintro rfl
   revert this
   decide +kernel
 ·rw [TL.join_eq]
  have:=join_len (y:=nl1) (m:=220) (qs:=T.map lineS) fun q hq=>by
   obtain ⟨ps,hp,rfl⟩:=List.mem_map.mp hq
   unfold lineS
   rw [TL.join_eq]
   have:=join_len (y:=sp1) (m:=30) (qs:=ps) fun q hq=>((hl ps hp).2.2 q hq).2.1
   have e:sp1.length=1:=by decide +kernel
   have h7:=(hl ps hp).2.1
   rw [e] at this
   omega
  have e:nl1.length=1:=by decide +kernel
  rw [e,List.length_map] at this
  omega
 ·rw [TL.join_eq]
  refine ok_of_rng fun c hc=>?_
  rcases join_tl hc with h | ⟨q,hq,h⟩
  ·have e:TL.tl nl1=[10]:=tl_nl
   rw [e] at h
   rw [List.mem_singleton.mp h]
   omega
  ·obtain ⟨ps,hp,rfl⟩:=List.mem_map.mp hq
   rcases lc ps hp c h with h | h <;> omega
def hd04 (a b:Str):Ps:=[("lists" : Str),a,b]
def rowB4 (h:Ps) (r:R04):Bool:=txB (h :: r.1) && decide (badN (readE (h :: r.1))=r.2)
def reR (σ:Str→Str) (r:R04):R04:=(r.1.map (List.map σ),r.2)
theorem row_ren {σ:Str→Str} (h:Ren σ) {hd:Ps} {r:R04} (hr:rowB4 hd r=true):rowB4 (hd.map σ) (reR σ r)=true:=by
 unfold rowB4 at hr ⊢
 rw [Bool.and_eq_true] at hr ⊢
 have e:hd.map σ :: (reR σ r).1=(hd :: r.1).map (List.map σ):=rfl
 rw [e]
 refine ⟨h.tx hr.1,decide_eq_true ?_⟩
 rw [h.readE]
 exact of_decide_eq_true hr.2
theorem pr04_c:(pr04_16 "ha" "hb" "hx" "hf" "hg" "hp" "hq").all (rowB4 (hd04 "ha" "hb"))=true:=by decide +kernel
theorem pl04_c:(pl04_11 "ha" "hb" "hp" "hq").all (rowB4 (hd04 "ha" "hb"))=true:=by decide +kernel
theorem gr04_c:(gr04 "ha" "hb" "hx" "hp").all (fun r=>txB r.1 && decide (badN (readE r.1)=r.2))=true:=by decide +kernel
theorem kp04_w:(kp04 "ha").all (fun T=>txB T && decide (badN (readE T)=none))=true:=by decide +kernel
theorem kp04_k:(keptL.all fun z=>(kp04 z).all (fun T=>txB T) && (decide (badN (readE ((kp04 z).getD 0 []))=some 0) && ((kp04 z).drop 1).all (fun T=>decide (badN (readE T)=some 1))))=true:=by decide +kernel
theorem kl04:(keptL.all fun z=>LET.cps.toList.all fun c=>wordB (z ++ ⟨#[c]⟩) && !decide (z ++ ⟨#[c]⟩∈([("zeal" : Str),"zest","zone"]:List Str)))=true:=by decide +kernel
structure Ws04 (ws:List Str):Prop where
 w:∀ z∈ws,wordB z=true
 nd:ws.Nodup
section
variable {a b x f g p q:Str}
theorem pr04_ren {σ:Str→Str} (h:Ren σ):pr04_16 (σ a) (σ b) (σ x) (σ f) (σ g) (σ p) (σ q)=(pr04_16 a b x f g p q).map (reR σ):=by
 have l0:σ ("!=" : Str) = "!=":=h.fx _ (by decide +kernel)
 have l1:σ ("0" : Str) = "0":=h.fx _ (by decide +kernel)
 have l2:σ ("00" : Str) = "00":=h.fx _ (by decide +kernel)
 have l3:σ ("10" : Str) = "10":=h.fx _ (by decide +kernel)
 have l4:σ ("100000000000000000000" : Str) = "100000000000000000000":=h.fx _ (by decide +kernel)
 have l5:σ ("5" : Str) = "5":=h.fx _ (by decide +kernel)
 have l6:σ ("6" : Str) = "6":=h.fx _ (by decide +kernel)
 have l7:σ ("7" : Str) = "7":=h.fx _ (by decide +kernel)
 have l8:σ ("99999999999999999999" : Str) = "99999999999999999999":=h.fx _ (by decide +kernel)
 have l9:σ ("<" : Str) = "<":=h.fx _ (by decide +kernel)
 have l10:σ ("=" : Str) = "=":=h.fx _ (by decide +kernel)
 have l11:σ (">=" : Str) = ">=":=h.fx _ (by decide +kernel)
 have l12:σ ("any" : Str) = "any":=h.fx _ (by decide +kernel)
 have l13:σ ("call" : Str) = "call":=h.fx _ (by decide +kernel)
 have l14:σ ("check" : Str) = "check":=h.fx _ (by decide +kernel)
 have l15:σ ("cut" : Str) = "cut":=h.fx _ (by decide +kernel)
 have l16:σ ("define" : Str) = "define":=h.fx _ (by decide +kernel)
 have l17:σ ("down" : Str) = "down":=h.fx _ (by decide +kernel)
 have l18:σ ("else" : Str) = "else":=h.fx _ (by decide +kernel)
 have l19:σ ("end" : Str) = "end":=h.fx _ (by decide +kernel)
 have l20:σ ("guard" : Str) = "guard":=h.fx _ (by decide +kernel)
 have l21:σ ("into" : Str) = "into":=h.fx _ (by decide +kernel)
 have l22:σ ("keep" : Str) = "keep":=h.fx _ (by decide +kernel)
 have l23:σ ("lists" : Str) = "lists":=h.fx _ (by decide +kernel)
 have l24:σ ("maybe" : Str) = "maybe":=h.fx _ (by decide +kernel)
 have l25:σ ("move" : Str) = "move":=h.fx _ (by decide +kernel)
 have l26:σ ("new" : Str) = "new":=h.fx _ (by decide +kernel)
 have l27:σ ("order" : Str) = "order":=h.fx _ (by decide +kernel)
 have l28:σ ("pour" : Str) = "pour":=h.fx _ (by decide +kernel)
 have l29:σ ("repeat" : Str) = "repeat":=h.fx _ (by decide +kernel)
 have l30:σ ("set" : Str) = "set":=h.fx _ (by decide +kernel)
 have l31:σ ("spot" : Str) = "spot":=h.fx _ (by decide +kernel)
 have l32:σ ("take" : Str) = "take":=h.fx _ (by decide +kernel)
 have l33:σ ("turn" : Str) = "turn":=h.fx _ (by decide +kernel)
 simp only [pr04_1,pr04_2,pr04_3,pr04_4,pr04_5,pr04_6,pr04_8,pr04_9,pr04_10,pr04_11,pr04_12,pr04_14,pr04_15,pr04_16,List.map_append,List.map_cons,List.map_nil,reR,l0,l1,l2,l3,l4,l5,l6,l7,l8,l9,l10,l11,l12,l13,l14,l15,l16,l17,l18,l19,l20,l21,l22,l23,l24,l25,l26,l27,l28,l29,l30,l31,l32,l33]
theorem pl04_ren {σ:Str→Str} (h:Ren σ):pl04_11 (σ a) (σ b) (σ p) (σ q)=(pl04_11 a b p q).map (reR σ):=by
 have l0:σ ("!=" : Str) = "!=":=h.fx _ (by decide +kernel)
 have l1:σ ("0" : Str) = "0":=h.fx _ (by decide +kernel)
 have l2:σ ("00" : Str) = "00":=h.fx _ (by decide +kernel)
 have l3:σ ("10" : Str) = "10":=h.fx _ (by decide +kernel)
 have l4:σ ("100000000000000000000" : Str) = "100000000000000000000":=h.fx _ (by decide +kernel)
 have l5:σ ("5" : Str) = "5":=h.fx _ (by decide +kernel)
 have l6:σ ("6" : Str) = "6":=h.fx _ (by decide +kernel)
 have l7:σ ("7" : Str) = "7":=h.fx _ (by decide +kernel)
 have l8:σ ("99999999999999999999" : Str) = "99999999999999999999":=h.fx _ (by decide +kernel)
 have l9:σ ("<" : Str) = "<":=h.fx _ (by decide +kernel)
 have l10:σ ("=" : Str) = "=":=h.fx _ (by decide +kernel)
 have l11:σ (">=" : Str) = ">=":=h.fx _ (by decide +kernel)
 have l12:σ ("any" : Str) = "any":=h.fx _ (by decide +kernel)
 have l13:σ ("call" : Str) = "call":=h.fx _ (by decide +kernel)
 have l14:σ ("check" : Str) = "check":=h.fx _ (by decide +kernel)
 have l15:σ ("cut" : Str) = "cut":=h.fx _ (by decide +kernel)
 have l16:σ ("define" : Str) = "define":=h.fx _ (by decide +kernel)
 have l17:σ ("down" : Str) = "down":=h.fx _ (by decide +kernel)
 have l18:σ ("else" : Str) = "else":=h.fx _ (by decide +kernel)
 have l19:σ ("end" : Str) = "end":=h.fx _ (by decide +kernel)
 have l20:σ ("guard" : Str) = "guard":=h.fx _ (by decide +kernel)
 have l21:σ ("into" : Str) = "into":=h.fx _ (by decide +kernel)
 have l22:σ ("keep" : Str) = "keep":=h.fx _ (by decide +kernel)
 have l23:σ ("lists" : Str) = "lists":=h.fx _ (by decide +kernel)
 have l24:σ ("maybe" : Str) = "maybe":=h.fx _ (by decide +kernel)
 have l25:σ ("move" : Str) = "move":=h.fx _ (by decide +kernel)
 have l26:σ ("new" : Str) = "new":=h.fx _ (by decide +kernel)
 have l27:σ ("order" : Str) = "order":=h.fx _ (by decide +kernel)
 have l28:σ ("pour" : Str) = "pour":=h.fx _ (by decide +kernel)
 have l29:σ ("repeat" : Str) = "repeat":=h.fx _ (by decide +kernel)
 have l30:σ ("set" : Str) = "set":=h.fx _ (by decide +kernel)
 have l31:σ ("spot" : Str) = "spot":=h.fx _ (by decide +kernel)
 have l32:σ ("take" : Str) = "take":=h.fx _ (by decide +kernel)
 have l33:σ ("turn" : Str) = "turn":=h.fx _ (by decide +kernel)
 simp only [pl04_1,pl04_2,pl04_3,pl04_4,pl04_5,pl04_6,pl04_7,pl04_8,pl04_9,pl04_10,pl04_11,List.map_append,List.map_cons,List.map_nil,reR,l0,l1,l2,l3,l4,l5,l6,l7,l8,l9,l10,l11,l12,l13,l14,l15,l16,l17,l18,l19,l20,l21,l22,l23,l24,l25,l26,l27,l28,l29,l30,l31,l32,l33]
theorem gr04_ren {σ:Str→Str} (h:Ren σ):gr04 (σ a) (σ b) (σ x) (σ p)=(gr04 a b x p).map (reR σ):=by
 have l0:σ ("!=" : Str) = "!=":=h.fx _ (by decide +kernel)
 have l1:σ ("0" : Str) = "0":=h.fx _ (by decide +kernel)
 have l2:σ ("00" : Str) = "00":=h.fx _ (by decide +kernel)
 have l3:σ ("10" : Str) = "10":=h.fx _ (by decide +kernel)
 have l4:σ ("100000000000000000000" : Str) = "100000000000000000000":=h.fx _ (by decide +kernel)
 have l5:σ ("5" : Str) = "5":=h.fx _ (by decide +kernel)
 have l6:σ ("6" : Str) = "6":=h.fx _ (by decide +kernel)
 have l7:σ ("7" : Str) = "7":=h.fx _ (by decide +kernel)
 have l8:σ ("99999999999999999999" : Str) = "99999999999999999999":=h.fx _ (by decide +kernel)
 have l9:σ ("<" : Str) = "<":=h.fx _ (by decide +kernel)
 have l10:σ ("=" : Str) = "=":=h.fx _ (by decide +kernel)
 have l11:σ (">=" : Str) = ">=":=h.fx _ (by decide +kernel)
 have l12:σ ("any" : Str) = "any":=h.fx _ (by decide +kernel)
 have l13:σ ("call" : Str) = "call":=h.fx _ (by decide +kernel)
 have l14:σ ("check" : Str) = "check":=h.fx _ (by decide +kernel)
 have l15:σ ("cut" : Str) = "cut":=h.fx _ (by decide +kernel)
 have l16:σ ("define" : Str) = "define":=h.fx _ (by decide +kernel)
 have l17:σ ("down" : Str) = "down":=h.fx _ (by decide +kernel)
 have l18:σ ("else" : Str) = "else":=h.fx _ (by decide +kernel)
 have l19:σ ("end" : Str) = "end":=h.fx _ (by decide +kernel)
 have l20:σ ("guard" : Str) = "guard":=h.fx _ (by decide +kernel)
 have l21:σ ("into" : Str) = "into":=h.fx _ (by decide +kernel)
 have l22:σ ("keep" : Str) = "keep":=h.fx _ (by decide +kernel)
 have l23:σ ("lists" : Str) = "lists":=h.fx _ (by decide +kernel)
 have l24:σ ("maybe" : Str) = "maybe":=h.fx _ (by decide +kernel)
 have l25:σ ("move" : Str) = "move":=h.fx _ (by decide +kernel)
 have l26:σ ("new" : Str) = "new":=h.fx _ (by decide +kernel)
 have l27:σ ("order" : Str) = "order":=h.fx _ (by decide +kernel)
 have l28:σ ("pour" : Str) = "pour":=h.fx _ (by decide +kernel)
 have l29:σ ("repeat" : Str) = "repeat":=h.fx _ (by decide +kernel)
 have l30:σ ("set" : Str) = "set":=h.fx _ (by decide +kernel)
 have l31:σ ("spot" : Str) = "spot":=h.fx _ (by decide +kernel)
 have l32:σ ("take" : Str) = "take":=h.fx _ (by decide +kernel)
 have l33:σ ("turn" : Str) = "turn":=h.fx _ (by decide +kernel)
 simp only [gr04,List.map_cons,List.map_nil,reR,l0,l1,l2,l3,l4,l5,l6,l7,l8,l9,l10,l11,l12,l13,l14,l15,l16,l17,l18,l19,l20,l21,l22,l23,l24,l25,l26,l27,l28,l29,l30,l31,l32,l33]
theorem Ws04.ren (h:Ws04 [a,b,x,f,g,p,q]):∃ σ,Ren σ∧σ "ha"=a∧σ "hb"=b∧σ "hx"=x∧σ "hf"=f∧σ "hg"=g∧σ "hp"=p∧σ "hq"=q:=by
 obtain ⟨σ,r,e⟩:=ren_ex ["ha","hb","hx","hf","hg","hp","hq"] [a,b,x,f,g,p,q] rfl (by decide +kernel) h.nd (by decide +kernel) h.w
 simp only [List.map_cons,List.map_nil,List.cons.injEq,and_true] at e
 exact ⟨σ,r,e.1,e.2.1,e.2.2.1,e.2.2.2.1,e.2.2.2.2.1,e.2.2.2.2.2.1,e.2.2.2.2.2.2⟩
theorem hd_ren {σ:Str→Str} (h:Ren σ):hd04 (σ a) (σ b)=(hd04 a b).map σ:=by
 show [("lists" : Str),σ a,σ b]=[σ ("lists" : Str),σ a,σ b]
 rw [h.fx ("lists" : Str) (by decide +kernel)]
theorem rows04 (h:Ws04 [a,b,x,f,g,p,q]):∀ r∈pr04_16 a b x f g p q++pl04_11 a b p q,rowB4 (hd04 a b) r=true:=fun r hr=>by
 obtain ⟨σ,rn,rfl,rfl,rfl,rfl,rfl,rfl,rfl⟩:=h.ren
 rw [pr04_ren rn,pl04_ren rn,← List.map_append] at hr
 obtain ⟨r0,h0,rfl⟩:=List.mem_map.mp hr
 rw [hd_ren rn]
 refine row_ren rn ?_
 rcases List.mem_append.mp h0 with h1 | h1
 ·exact List.all_eq_true.mp pr04_c r0 h1
 ·exact List.all_eq_true.mp pl04_c r0 h1
theorem grp04 (h:Ws04 [a,b,x,f,g,p,q]):∀ r∈gr04 a b x p,txB r.1=true∧badN (readE r.1)=r.2:=fun r hr=>by
 obtain ⟨σ,rn,rfl,rfl,rfl,rfl,rfl,rfl,rfl⟩:=h.ren
 rw [gr04_ren rn] at hr
 obtain ⟨r0,h0,rfl⟩:=List.mem_map.mp hr
 have:=List.all_eq_true.mp gr04_c r0 h0
 rw [Bool.and_eq_true] at this
 exact ⟨rn.tx this.1,by show badN (readE (r0.1.map (List.map σ)))=r0.2; rw [rn.readE]; exact of_decide_eq_true this.2⟩
end
theorem kept04 {z:Str} (hz:z∈keptL):wordB z=false∧(∀ T∈kp04 z,txB T=true)∧badN (readE ((kp04 z).getD 0 []))=some 0∧∀ T∈(kp04 z).drop 1,badN (readE T)=some 1:=by
 have:=List.all_eq_true.mp kp04_k z hz
 rw [Bool.and_eq_true,Bool.and_eq_true] at this
 exact ⟨kept_nw z hz,fun T hT=>List.all_eq_true.mp this.1 T hT,of_decide_eq_true this.2.1,fun T hT=>of_decide_eq_true (List.all_eq_true.mp this.2.2 T hT)⟩
theorem word04 {z:Str} {c:Nat} (hz:z∈keptL) (hc:c∈LET.cps.toList):wordB (z ++ ⟨#[c]⟩)=true∧("zeal" : Str)≠z ++ ⟨#[c]⟩∧∀ T∈kp04 (z ++ ⟨#[c]⟩),txB T=true∧badN (readE T)=none:=by
 have:=List.all_eq_true.mp (List.all_eq_true.mp kl04 z hz) c hc
 rw [Bool.and_eq_true] at this
 obtain ⟨hw,hn⟩:=this
 generalize z ++ ⟨#[c]⟩=y at hw hn
 have hn:y∉([("zeal" : Str),"zest","zone"]:List Str):=by simpa using hn
 simp only [List.mem_cons,List.not_mem_nil,or_false,not_or] at hn
 refine ⟨hw,fun e=>hn.1 e.symm,fun T hT=>?_⟩
 obtain ⟨σ,rn,e⟩:=ren_ex [("ha" : Str),"zeal","zest","zone"] [y,"zeal","zest","zone"] rfl (by decide +kernel) (by
  rw [List.nodup_cons]
  exact ⟨by simp only [List.mem_cons,List.not_mem_nil,or_false,not_or]; exact hn,by decide +kernel⟩) (by decide +kernel) (fun u hu=>by
  rcases List.mem_cons.mp hu with rfl | hu
  ·exact hw
  ·have k:∀ v∈([("zeal" : Str),"zest","zone"]:List Str),wordB v=true:=by decide +kernel
   exact k u hu)
 simp only [List.map_cons,List.map_nil,List.cons.injEq,and_true] at e
 obtain ⟨e1,e2,e3,e4⟩:=e
 have l0:σ ("!=" : Str) = "!=":=rn.fx _ (by decide +kernel)
 have l1:σ ("0" : Str) = "0":=rn.fx _ (by decide +kernel)
 have l2:σ ("00" : Str) = "00":=rn.fx _ (by decide +kernel)
 have l3:σ ("10" : Str) = "10":=rn.fx _ (by decide +kernel)
 have l4:σ ("100000000000000000000" : Str) = "100000000000000000000":=rn.fx _ (by decide +kernel)
 have l5:σ ("5" : Str) = "5":=rn.fx _ (by decide +kernel)
 have l6:σ ("6" : Str) = "6":=rn.fx _ (by decide +kernel)
 have l7:σ ("7" : Str) = "7":=rn.fx _ (by decide +kernel)
 have l8:σ ("99999999999999999999" : Str) = "99999999999999999999":=rn.fx _ (by decide +kernel)
 have l9:σ ("<" : Str) = "<":=rn.fx _ (by decide +kernel)
 have l10:σ ("=" : Str) = "=":=rn.fx _ (by decide +kernel)
 have l11:σ (">=" : Str) = ">=":=rn.fx _ (by decide +kernel)
 have l12:σ ("any" : Str) = "any":=rn.fx _ (by decide +kernel)
 have l13:σ ("call" : Str) = "call":=rn.fx _ (by decide +kernel)
 have l14:σ ("check" : Str) = "check":=rn.fx _ (by decide +kernel)
 have l15:σ ("cut" : Str) = "cut":=rn.fx _ (by decide +kernel)
 have l16:σ ("define" : Str) = "define":=rn.fx _ (by decide +kernel)
 have l17:σ ("down" : Str) = "down":=rn.fx _ (by decide +kernel)
 have l18:σ ("else" : Str) = "else":=rn.fx _ (by decide +kernel)
 have l19:σ ("end" : Str) = "end":=rn.fx _ (by decide +kernel)
 have l20:σ ("guard" : Str) = "guard":=rn.fx _ (by decide +kernel)
 have l21:σ ("into" : Str) = "into":=rn.fx _ (by decide +kernel)
 have l22:σ ("keep" : Str) = "keep":=rn.fx _ (by decide +kernel)
 have l23:σ ("lists" : Str) = "lists":=rn.fx _ (by decide +kernel)
 have l24:σ ("maybe" : Str) = "maybe":=rn.fx _ (by decide +kernel)
 have l25:σ ("move" : Str) = "move":=rn.fx _ (by decide +kernel)
 have l26:σ ("new" : Str) = "new":=rn.fx _ (by decide +kernel)
 have l27:σ ("order" : Str) = "order":=rn.fx _ (by decide +kernel)
 have l28:σ ("pour" : Str) = "pour":=rn.fx _ (by decide +kernel)
 have l29:σ ("repeat" : Str) = "repeat":=rn.fx _ (by decide +kernel)
 have l30:σ ("set" : Str) = "set":=rn.fx _ (by decide +kernel)
 have l31:σ ("spot" : Str) = "spot":=rn.fx _ (by decide +kernel)
 have l32:σ ("take" : Str) = "take":=rn.fx _ (by decide +kernel)
 have l33:σ ("turn" : Str) = "turn":=rn.fx _ (by decide +kernel)
 have ek:kp04 y=(kp04 "ha").map (fun T=>T.map (List.map σ)):=by
  simp only [kp04,List.map_cons,List.map_nil,e1,e2,e3,e4,l0,l1,l2,l3,l4,l5,l6,l7,l8,l9,l10,l11,l12,l13,l14,l15,l16,l17,l18,l19,l20,l21,l22,l23,l24,l25,l26,l27,l28,l29,l30,l31,l32,l33]
 rw [ek] at hT
 obtain ⟨T0,h0,rfl⟩:=List.mem_map.mp hT
 have:=List.all_eq_true.mp kp04_w T0 h0
 rw [Bool.and_eq_true] at this
 exact ⟨rn.tx this.1,by rw [rn.readE]; exact of_decide_eq_true this.2⟩
theorem tyTq {K:PySem.W.Frag} {H:Hp} {a:Addr} {xs:List V} (h:SqT K H a xs):TyX K H (.ref a) (.type "tuple"):=by
 rcases h with (h | ⟨o,h⟩) | h
 ·exact .base (.tup h)
 ·exact .fTuple h
 ·obtain ⟨o,_,_,h1,h2,_⟩:=h
  exact .kTuple h1 h2
theorem tyLq {K:PySem.W.Frag} {H:Hp} {a:Addr} {xs:List V} (h:SqL K H a xs):TyX K H (.ref a) (.type "list"):=by
 rcases h with (h | ⟨o,h⟩) | h
 ·exact .base (.lst h)
 ·exact .base (.frz h)
 ·obtain ⟨o,_,_,h1,h2,_⟩:=h
  exact .kList h1 h2
theorem kit_lt {K:PySem.W.Frag} {n:String} (h:n = "list"∨n = "tuple"):PySem.W.kitAny K (.type n) [.type "list",.type "tuple"]=some true:=by
 rcases h with rfl | rfl
 ·exact kitAny_cons (kit_ty (r:=true) (by decide +kernel)) (fun z=>nomatch z) (fun _=>rfl)
 ·exact kitAny_cons (kit_ty (r:=false) (by decide +kernel)) (fun _=>kitAny_cons (kit_ty (r:=true) (by decide +kernel)) (fun z=>nomatch z) (fun _=>rfl)) (fun z=>nomatch z)
def SqS (K:PySem.W.Frag) (H:Hp) (a:Addr) (xs:List V):Prop:=SqL K H a xs∨SqT K H a xs
theorem tyS {K:PySem.W.Frag} {H:Hp} {a:Addr} {xs:List V} (h:SqS K H a xs):∃ n,(n = "list"∨n = "tuple")∧TyX K H (.ref a) (.type n):=by
 rcases h with h | h
 ·exact ⟨"list",.inl rfl,tyLq h⟩
 ·exact ⟨"tuple",.inr rfl,tyTq h⟩
def fstBad:List Str→Nat→List Str→Option Nat
 | _,_,[]=>none
 | seen,i,z :: r=>if wordB z=false∨z∈seen then some i else fstBad (seen++[z]) (i+1) r
def spCN04 (TS:List (Addr × Str)) (CBN:Addr):Sp:=fun vs H Q E=>∃ (a:Addr) (zs:List Str),vs=[.ref a]∧H a=some (.lst (zs.map V.str))∧1≤zs.length∧zs.length≤6∧(∀ z∈zs,z.length≤1000) ∧
 (fstBad [] 0 zs=none→∀ H',Ev TS [] H H'→Q .non H')∧∀ j,fstBad [] 0 zs=some j→Rz TS H E CBN [("at",.int (j:Int))]
def spCT04 (TS:List (Addr × Str)) (K:PySem.W.Frag):Sp:=fun vs H Q _=>∃ (r:Addr) (wd:Nat),vs=[.ref r,.int (wd:Int)]∧SqT K H r []∧∀ H',Ev TS [] H H'→Q .non H'
def spKI04 (TS:List (Addr × Str)) (K:PySem.W.Frag) (CK CBN:Addr):Sp:=fun vs H Q E=>∃ (x dx a r:Addr) (zs:List Str),vs=[.ref x,.ref a,.ref r]∧H x=some (.ins CK dx [])∧H a=some (.lst (zs.map V.str))∧SqT K H r []∧1≤zs.length∧zs.length≤6∧(∀ z∈zs,z.length≤1000) ∧
 (fstBad [] 0 zs=none→∀ H',Ev TS [x] H H'→Q .non H')∧∀ j,fstBad [] 0 zs=some j→Rz TS H E CBN [("at",.int (j:Int))]
structure TxtK4 (K:PySem.W.Frag) (mg:Str→Option Value) (KPT SGN MVG BLK CR CP CK:Addr):Prop extends TxtPg K mg KPT SGN MVG BLK CR CP where
 ck:Cls K CK
 nn:NoAttr K CK "names"
 nh:NoAttr K CK "held"
 g_Keeper:mg "Keeper"=some (.ref CK)
section
variable {P:Program} {w:World} {K:PySem.W.Frag} {mg:Str→Option Value} {base:Heap} {KPT SGN MVG BLK CR CP CK CBN:Addr} {TS:List (Addr × Str)}
theorem sc_cnames:FnScope ["names","seen","at","name"] ["names"] (defScope s_cnames):=⟨rfl,rfl,rfl,by decide +kernel,rfl,by decide +kernel,by decide +kernel⟩
theorem ok_cnames {f:Addr} {fd:FuncData} (F:Fun K "check_names" "check_names" s_cnames f fd) (T:TxtK4 K mg KPT SGN MVG BLK CR CP CK) (gMN:∃ u,mg "MOST_NAMES"=some u∧RelV (.int 6) u) (XBadNames:Xc P w K mg base 1 "BadNames" CBN ["at"]) (Disword:Cl P w K mg base CX0 1 "is_word" (spIsWord TS)):FnR P w K mg base (L2.CX P w) 3 f (spCN04 TS CBN):=by
 refine fnrX F sc_cnames (fun vs H Q E h=>?_) (fun _ _ _ _ _ _ us hl=>match us,hl with | [_],_=>rfl) (fun cdv A outer s H vs Q E hr h=>?_)
 ·obtain ⟨a,zs,rfl,_⟩:=h
  rfl
 ·obtain ⟨a,zs,rfl,ha,h1,h6,hl,kq,kx⟩:=h
  refine ⟨_,(pss_cons (ps_if (PW.pt (pw_or (pt_not (pt_val (pe_callB call_isiT (by rfl) T.n_isinstance (by decide +kernel) (pa_cons (pv 0) (pa_cons (pe_tup (pa_cons (pe_bltn (v:=.ty "list") (by rfl) T.n_list (by decide +kernel) rfl) (pa_cons (pe_bltn (v:=.ty "tuple") (by rfl) T.n_tuple (by decide +kernel) rfl) pa_nil))) pa_nil))))) (pw_or1 (pt_not (pt_chain op_le op_le pe_int (pe_callB call_len_seq (by rfl) T.n_len (by decide +kernel) (pa_cons (pv 0) pa_nil)) (C8.pe_gc (v:=.int 6) (by rfl) gMN)))))) (pss_one (ps_raise rfl (takes_of rfl rfl rfl rfl) (pmk_x XBadNames hr (by decide) (by rfl) (pa_cons (pe_un un_neg pe_int) pa_nil)))) pss_nil)
   (pss_cons (ps_set (i:=1) sc_cnames.nd rfl (Or.inl rfl) pe_dnewK)
   (pss_one (ps_for (passes_of rfl) rfl (pi_enumS (by rfl) T.n_enumerate (pa_cons (pv 0) pa_nil)) (pg_tup rfl (pgs_cons (pg_name (i:=2) sc_cnames.nd rfl (Or.inl rfl)) (pgs_cons (pg_name (i:=3) sc_cnames.nd rfl (Or.inl rfl)) pgs_nil)))
    (pss_cons (ps_if (PW.pt (pw_or (pt_not (pt_val (pe_cl Disword hr (by decide) (by rfl) pass0 (pa_cons (pv 3) pa_nil)))) (pw_or1 (pt_cmp (pc_din (hu_of hr) (pv 3) (pv 1)))))) (pss_one (ps_raise rfl (takes_of rfl rfl rfl rfl) (pmk_x XBadNames hr (by decide) (by rfl) (pa_cons (pv 2) pa_nil)))) pss_nil)
    (pss_one (ps_dput (hu_of hr) (pv 1) (pv 3) pe_bl rfl))))))),?_⟩
  walk_at "rd"
  refine ⟨(by show 2≤sizeLine; decide),fun TT hTT=>?_⟩
  generalize hX:upd _ TT _=H1
  obtain ⟨e1,g1⟩:=new_facts (TS:=TS) hX hTT
  clear hX
  walk_at "rs"
  have ha1:H1 a=some (.lst (zs.map V.str)):=ev_lst e1 ha trivial
  have hs1:SqS K H1 a (zs.map V.str):=.inl (SqL.of ha1)
  obtain ⟨nn,hnn,ty⟩:=tyS hs1
  refine ⟨_,TT,_,_,[.type "list",.type "tuple"],_,rfl,g1,.cons (.ty _) (.cons (.ty _) .nil),ty,kit_lt hnn,?_⟩
  walk_at "rd"
  refine ⟨a,_,rfl,hs1,?_⟩
  rw [List.length_map]
  walk_at "rd"
  refine ifT (decide_eq_true (by omega)) ?_
  walk_at "rd"
  refine iteNS (by omega) ?_
  walk_at "rd"
  intro d hd
  generalize hX:upd _ d _=H2
  obtain ⟨e2,h2⟩:=new_facts (TS:=TS) hX hd
  clear hX
  walk_at "rs"
  walk_at "rd"
  have hs2:SqS K H2 a (zs.map V.str):=hs1.imp (fun z=>ev_sqL e2 z trivial) (fun z=>ev_sqT e2 z)
  have nad:a≠d:=ne_of_none ha1 hd
  have nd0:NA H d:=(by walk_at "na")
  have raise:∀ (i:Nat) (H':Hp),fstBad [] 0 zs=some i→Ev TS [] H H'→(1:Nat)≤1000∧∀ d,H' d=none→E (.ref CBN) (some d) (upd H' d (.xd [("at",.int (i:Int))])):=fun i H' hb e=>⟨by decide,((kx i hb).ev e).go⟩
  refine ⟨a,_,rfl,hs2,fun J G w hG=>?_⟩
  refine for_it w (fun i σ H'=>∃ (v2 v3:Option V) (kvs:List (Key × V)),σ=[some (.ref a),some (.ref d),v2,v3]∧Ev TS [d] H2 H'∧H' d=some (.dK kvs)∧kvs.length≤i∧(∀ z:Str,(valV kvs (Sum.inr z)).isSome=decide (z∈zs.take i))∧fstBad (zs.take i) i (zs.drop i)=fstBad [] 0 zs)
   ⟨none,none,[],rfl,Ev.refl _ _,h2,Nat.le_refl _,fun z=>by simp [valV_nil],rfl⟩ (fun i σ H' _ ⟨_,_,_,_,e,_⟩=>hG H' (fun z=>ev_sqL e z ⟨nad,trivial⟩) (fun z=>ev_sqT e z)) ?_ ?_
  ·rintro i x' σ H3 H4' hi ⟨v2,v3,kvs,rfl,e3,hd3,hkl,hval,hfb⟩ ⟨T',x0,y0,rfl,hT,rfl,e0,ey⟩
   cases e0
   have hi':i < zs.length:=by simpa using hi
   have epi:zs[i]? = some zs[i]:=List.getElem?_eq_getElem hi'
   have ey':y0=.str zs[i]:=by
    have q:(zs.map V.str)[i]? = some y0:=ey
    rw [List.getElem?_map,epi] at q
    exact (Option.some.inj q).symm
   subst ey'
   have tk:zs.take (i+1)=zs.take i++[zs[i]]:=by rw [List.take_append_getElem hi']
   have zl:=hl zs[i] (List.getElem_mem hi')
   rw [List.drop_eq_getElem_cons hi'] at hfb
   have hfb:(if wordB zs[i]=false∨zs[i]∈zs.take i then some i else fstBad (zs.take i++[zs[i]]) (i+1) (zs.drop (i+1)))=fstBad [] 0 zs:=hfb
   generalize hX:upd _ T' _=H4
   obtain ⟨e4,h4⟩:=new_facts (TS:=TS) hX hT
   clear hX
   walk_at "rs"
   refine ⟨T',_,rfl,SqT.of h4,rfl,?_⟩
   walk_at "rd"
   refine ⟨by omega,fun H5 e5=>?_⟩
   have E5:Ev TS [] H H5:=(((e1.trans e2 trivial).trans e3 ⟨.inr nd0,trivial⟩).trans e4 trivial).trans e5 trivial
   cases cw:wordB zs[i] with
   | false =>
    rw [if_pos (.inl cw)] at hfb
    walk_at "rd"
    exact raise i H5 hfb.symm E5
   | true =>
    walk_at "rd"
    have hd5:H5 d=some (.dK kvs):=ev_dK e5 (ev_dK e4 hd3 trivial) trivial
    refine ⟨d,_,rfl,DGet.k (k:=Sum.inr zs[i]) hd5,_,rfl,?_⟩
    rw [hval zs[i]]
    by_cases cm:zs[i]∈zs.take i
    ·rw [if_pos (.inr cm)] at hfb
     rw [decide_eq_true cm]
     walk_at "rd"
     exact raise i H5 hfb.symm E5
    ·rw [if_neg (by rw [cw]; rintro (z | z); cases z; exact cm z)] at hfb
     rw [decide_eq_false cm]
     walk_at "rd"
     refine ⟨d,_,rfl,DPut.k (k:=Sum.inr zs[i]) hd5 (lt_line (by omega)),?_⟩
     generalize hX:upd _ d _=H6
     obtain ⟨e6,h6⟩:=setD_facts (TS:=TS) hX hd5
     clear hX
     walk_at "rs"
     have hm:∀ u,u∈zs.take (i+1)↔u∈zs.take i∨u=zs[i]:=fun u=>by rw [tk,List.mem_append,List.mem_singleton]
     refine ⟨_,_,_,rfl,((e3.trans e4 trivial).trans e5 trivial).trans e6 ⟨.inl (by simp),trivial⟩,h6,?_,fun u=>?_,by rw [tk]; exact hfb⟩
     ·have:=length_putK kvs (Sum.inr zs[i]) (V.bl true)
      omega
     ·rw [valV_put,decide_eq_decide.mpr (hm u)]
      by_cases e:u=zs[i]
      ·rw [if_pos (by rw [e]),decide_eq_true (.inr e)]
       rfl
      ·rw [if_neg (fun z=>e (Sum.inr.inj z)),hval u]
       exact decide_eq_decide.mpr ⟨.inl,fun z=>z.resolve_right e⟩
  ·rintro σ H3 ⟨v2,v3,kvs,rfl,e3,hd3,hkl,hval,hfb⟩
   rw [List.length_map,List.drop_length] at hfb
   walk_at "rd"
   exact kq hfb.symm _ ((e1.trans e2 trivial).trans e3 ⟨.inr nd0,trivial⟩)
theorem sc_crows:FnScope ["rows","width","at","row"] ["rows","width"] (defScope s_crows):=⟨rfl,rfl,rfl,by decide +kernel,rfl,by decide +kernel,by decide +kernel⟩
theorem ok_crows {f:Addr} {fd:FuncData} (F:Fun K "check_rows" "check_rows" s_crows f fd) (T:TxtK4 K mg KPT SGN MVG BLK CR CP CK) (Disrow:Cl P w K mg base CX0 3 "is_row" (fun _ _ _ _=>False)):FnR P w K mg base CX0 4 f (spCT04 TS K):=by
 refine fnr F sc_crows (fun vs H Q E h=>?_) (fun _ _ _ _ _ _ us hl=>match us,hl with | [_,_],_=>rfl) (fun cdv A outer s H vs Q E hr h=>?_)
 ·obtain ⟨r,wd,rfl,_⟩:=h
  rfl
 ·obtain ⟨r,wd,rfl,hr0,k⟩:=h
  refine ⟨_,(pss_one (ps_for PassesOwn.never rfl (pi_enumS (by rfl) T.n_enumerate (pa_cons (pv 0) pa_nil)) (pg_tup rfl (pgs_cons (pg_name (i:=2) sc_crows.nd rfl (Or.inl rfl)) (pgs_cons (pg_name (i:=3) sc_crows.nd rfl (Or.inl rfl)) pgs_nil)))
    (pss_one (ps_if (pt_not (pt_val (pe_cl Disrow hr (by decide) (by rfl) pass0 (pa_cons (pv 3) (pa_cons (pv 1) pa_nil))))) (pss_one ps_never) pss_nil)))),?_⟩
  walk_at "rd"
  refine ⟨r,_,rfl,.inr hr0,fun J G w hG=>?_⟩
  refine for_it w (fun i σ H'=>∃ (v2 v3:Option V),σ=[some (.ref r),some (.int (wd:Int)),v2,v3]∧Ev TS [] H H') ⟨none,none,rfl,Ev.refl _ _⟩ (fun i σ H' _ ⟨_,_,_,e⟩=>hG H' (fun z=>ev_sqL e z trivial) (fun z=>ev_sqT e z)) ?_ ?_
  ·rintro i x' σ H3 H4' hi _ _
   exact absurd hi (Nat.not_lt_zero _)
  ·rintro σ H3 ⟨v2,v3,rfl,e3⟩
   exact k _ e3
theorem sc_ctable:FnScope ["rows","width"] ["rows","width"] (defScope s_ctable):=⟨rfl,rfl,rfl,by decide +kernel,rfl,by decide +kernel,by decide +kernel⟩
theorem ok_ctable {f:Addr} {fd:FuncData} (F:Fun K "check_table" "check_table" s_ctable f fd) (T:TxtK4 K mg KPT SGN MVG BLK CR CP CK) (Dcrows:Cl P w K mg base CX0 4 "check_rows" (spCT04 TS K)):FnR P w K mg base CX0 5 f (spCT04 TS K):=by
 refine fnr F sc_ctable (fun vs H Q E h=>?_) (fun _ _ _ _ _ _ us hl=>match us,hl with | [_,_],_=>rfl) (fun cdv A outer s H vs Q E hr h=>?_)
 ·obtain ⟨r,wd,rfl,_⟩:=h
  rfl
 ·obtain ⟨r,wd,rfl,hr0,k⟩:=h
  refine ⟨_,(pss_cons (ps_if (pt_not (pt_val (pe_callB call_isiT (by rfl) T.n_isinstance (by decide +kernel) (pa_cons (pv 0) (pa_cons (pe_tup (pa_cons (pe_bltn (v:=.ty "list") (by rfl) T.n_list (by decide +kernel) rfl) (pa_cons (pe_bltn (v:=.ty "tuple") (by rfl) T.n_tuple (by decide +kernel) rfl) pa_nil))) pa_nil))))) (pss_one ps_never) pss_nil)
   (pss_one (ps_expr (pe_cl Dcrows hr (by decide) (by rfl) pass0 (pa_cons (pv 0) (pa_cons (pv 1) pa_nil)))))),?_⟩
  walk_at "rd"
  refine ⟨(by show 2≤sizeLine; decide),fun TT hTT=>?_⟩
  generalize hX:upd _ TT _=H1
  obtain ⟨e1,g1⟩:=new_facts (TS:=TS) hX hTT
  clear hX
  walk_at "rs"
  obtain ⟨nn,hnn,ty⟩:=tyS (K:=K) (H:=H1) (.inr (ev_sqT e1 hr0))
  refine ⟨_,TT,_,_,[.type "list",.type "tuple"],_,rfl,g1,.cons (.ty _) (.cons (.ty _) .nil),ty,kit_lt hnn,?_⟩
  walk_at "rd"
  refine ⟨ev_sqT e1 hr0,fun H2 e2=>?_⟩
  walk_at "rd"
  exact k _ (e1.trans e2 trivial)
theorem sc_k_init:FnScope ["self","names","rows"] ["self","names","rows"] (defScope s_k_init):=⟨rfl,rfl,rfl,by decide +kernel,rfl,by decide +kernel,by decide +kernel⟩
theorem okf_kinit {f e0:Addr} {fd:FuncData} (F:FunD K "__init__" "Keeper.__init__" (defArgs s_k_init) (defBody s_k_init) (defScope s_k_init) [.ref e0] [] f fd) (T:TxtK4 K mg KPT SGN MVG BLK CR CP CK) (Dcnames:Cl P w K mg base (L2.CX P w) 3 "check_names" (spCN04 TS CBN)) (Dctable:Cl P w K mg base CX0 5 "check_table" (spCT04 TS K)):FnOk P w K mg base (L2.CX P w) 6 f fd ["self","names","rows"] (spKI04 TS K CK CBN):=by
 refine F.ok sc_k_init (fun vs H Q E h=>?_) (fun cdv A outer s H vs Q E hr h=>?_)
 ·obtain ⟨x,dx,a,r,zs,rfl,_⟩:=h
  rfl
 ·obtain ⟨x,dx,a,r,zs,rfl,hx,ha,hr0,h1,h6,hl,kq,kx⟩:=h
  refine ⟨_,(pss_cons (ps_expr (pe_cl Dcnames hr (by decide) (by rfl) (SB.passL rfl rfl rfl rfl) (pa_cons (pv 1) pa_nil)))
   (pss_cons (ps_expr (pe_cl Dctable hr (by decide) (by rfl) pass0 (pa_cons (pv 2) (pa_cons (pe_callB call_len_seq (by rfl) T.n_len (by decide +kernel) (pa_cons (pv 1) pa_nil)) pa_nil))))
   (pss_cons (ps_fld (pv 0) (pe_callTy call_tupleF (by rfl) T.n_tuple (by decide +kernel) (pa_cons (pv 1) pa_nil)) rfl)
   (pss_one (ps_fld (pv 0) (pe_callTy call_list_of (by rfl) T.n_list (by decide +kernel) (pa_cons (pv 2) pa_nil)) rfl))))),?_⟩
  walk_at "rd"
  refine ⟨a,zs,rfl,ha,h1,h6,hl,fun hb H1 e1=>?_,kx⟩
  have ha1:H1 a=some (.lst (zs.map V.str)):=ev_lst e1 ha trivial
  have hx1:H1 x=some (.ins CK dx []):=ev_ins e1 hx trivial
  walk_at "rd"
  refine ⟨a,_,rfl,.inl (SqL.of ha1),?_⟩
  rw [List.length_map]
  walk_at "rd"
  refine ⟨ev_sqT e1 hr0,fun H2 e2=>?_⟩
  have ha2:H2 a=some (.lst (zs.map V.str)):=ev_lst e2 ha1 trivial
  have hx2:H2 x=some (.ins CK dx []):=ev_ins e2 hx1 trivial
  walk_at "rd"
  refine ⟨a,zs.map V.str,rfl,?_⟩
  refine .inl ⟨SqL.of ha2,fun qn H3 nq h3 fz=>?_⟩
  have e3:Ev TS [] H2 H3:=Ev.same (fun b o e=>(h3 b (ne_of_none e nq)).trans e)
  have hx3:H3 x=some (.ins CK dx []):=ev_ins e3 hx2 trivial
  walk_at "rd"
  refine ⟨x,CK,dx,[],rfl,hx3,T.ck,T.nn,(by show 0 < 1000; decide),?_⟩
  generalize hX:upd _ x _=H4
  obtain ⟨e4,h4⟩:=setI_facts (TS:=TS) hX hx3
  clear hX
  walk_at "rs"
  have er:Ev TS [x] H H4:=((e1.trans e2 trivial).trans e3 trivial).mono (fun _ z=>nomatch z) |>.trans e4 ⟨.inl (by simp),trivial⟩
  walk_at "rd"
  refine ⟨r,_,rfl,.inr (ev_sqT er hr0),fun q hq=>?_⟩
  generalize hX:upd _ q _=H5
  obtain ⟨e5,h5⟩:=new_facts (TS:=TS) hX hq
  clear hX
  walk_at "rs"
  have hx5:=ev_ins e5 h4 trivial
  walk_at "rd"
  refine ⟨x,CK,dx,_,rfl,hx5,T.ck,T.nh,(by show 1 < 1000; decide),?_⟩
  generalize hX:upd _ x _=H6
  obtain ⟨e6,h6⟩:=setI_facts (TS:=TS) hX hx5
  clear hX
  walk_at "rs"
  walk_at "rd"
  exact kq hb H6 ((er.trans e5 trivial).trans e6 ⟨.inl (by simp),trivial⟩)
end
def dueO:Option Nat→V
 | some i=>.int (i:Int)
 | none=>.non
def spRef04 (TS:List (Addr × Str)):Sp:=fun vs H Q _=>∃ (p:Addr) (ss:List Str),vs=[.ref p]∧H p=some (.lst (ss.map V.str))∧TOk (Txt.join nl1 ss)∧∀ H',Ev TS [] H H'→Q (dueO (badN (readE (linesOf (Txt.join nl1 ss))))) H'
def spKRef04 (TS:List (Addr × Str)):Sp:=fun vs H Q _=>∃ (p:Addr) (zs:List Str),vs=[.ref p]∧H p=some (.lst (zs.map V.str))∧1≤zs.length∧zs.length≤6∧(∀ z∈zs,z.length≤1000)∧∀ H',Ev TS [] H H'→Q (dueO (fstBad [] 0 zs)) H'
section
variable {P:Program} {w:World} {K:PySem.W.Frag} {mg:Str→Option Value} {base:Heap} {KPT SGN MVG BLK CR CP CK CBL CBN:Addr} {TS:List (Addr × Str)}
theorem sc_refused:FnScope ["_law_lines","e"] ["_law_lines"] (defScope s_refused):=⟨rfl,rfl,rfl,by decide +kernel,rfl,by decide +kernel,by decide +kernel⟩
theorem ok_refused {f:Addr} {fd:FuncData} (F:Fun K "_law_refused" "_law_refused" s_refused f fd) (T:TxtPg K mg KPT SGN MVG BLK CR CP) (MProgram:Ml P w K mg base (L2.CX P w) 5 "Program" CP (spPgI TS K CP CBL)) (gBL:mg "BadLine"=some (.ref CBL)) (FBL:XfC K CBL) (noAt:PySem.W.findIn K (.ref CBL) "at"=some none) (hex:PySem.W.exmOne K (.ref CBL) (.ref CBL)=some true):FnR P w K mg base CX0 7 f (spRef04 TS):=by
 refine fnr F sc_refused (fun vs H Q E h=>?_) (fun _ _ _ _ _ _ us hl=>match us,hl with | [_],_=>rfl) (fun cdv A outer s H vs Q E hr h=>?_)
 ·obtain ⟨p,ss,rfl,_⟩:=h
  rfl
 ·obtain ⟨p,ss,rfl,hp,tok,k⟩:=h
  refine ⟨_,pss_cons (ps_try_manyAs (n:="e") (i:=1) (l:=[(.ref CBL,_)]) rfl rfl sc_refused.nd rfl rfl takes_none5 (fun W pn xe tk hp=>pss_one (ps_expr (pe_mlS (P:=P) (w:=w) (K:=K) (mg:=mg) (base:=base) (by rfl) (by rfl) (by rfl) (by rfl) (by rfl) MProgram hr (by decide) (by rfl) (fun σ=>passAt tk σ) (pa_cons (pe_joinK (K:=K) (by rfl) pe_str (pv 0)) pa_nil))))
    (.cons ⟨rfl,by decide,.inl gBL⟩ (fun a oe cls d pn hz dt=>pss_one (ps_ret (pe_xf FBL noAt hz dt (pv 1)))) .nil)) (pss_one (ps_ret pe_non)),?_⟩
  walk_at "rd"
  have jl:(ss.map (·.length)).sum+ss.length * 1≤16777216:=by
   have t1:=tok.1
   rw [TL.join_eq] at t1
   have h1:=join_sum nl1 ss
   have h2:=join_cnt (y:=nl1) nl1_len ss
   omega
  refine ⟨⟨_,rfl⟩,.ref p,rfl,_,p,ss,rfl,rfl,.inl (SqL.of hp),jl,?_⟩
  intro x dx nx ndx nd
  have E2:Ev TS [] H (upd (upd H dx (.own x)) x (.ins CP dx [])):=(Ev.trans (Ev.new ndx) (Ev.new (by rw [upd_ne (Ne.symm nd)]; exact nx)) trivial)
  have nx0:NA H x:=NA.of nx
  refine ⟨x,dx,_,rfl,upd_same,tok,fun q hq H3 e3 pg=>⟨rfl,?_⟩,fun i hi=>?_⟩
  ·walk_at "rd"
   have hq:readE (linesOf (Txt.join nl1 ss))=.inr q:=hq
   have:=k H3 (E2.trans e3 ⟨.inr nx0,trivial⟩)
   rw [hq] at this
   exact this
  ·have hi:readE (linesOf (Txt.join nl1 ss))=.inl i:=hi
   generalize upd (upd H dx (.own x)) x (.ins CP dx [])=H2 at E2 ⊢
   refine fun d H3 e3 hd3=>⟨true,hex,fun _ a na=>?_,fun z=>by cases z⟩
   have k2:=k H3 (E2.trans e3 trivial)
   rw [hi] at k2
   walk_at "rd"
   first | exact ⟨d,_,_,rfl,hd3,rfl,k2⟩ | exact ⟨_,_,hd3,rfl,k2⟩ | exact ⟨_,hd3,rfl,k2⟩
theorem sc_keeper_refused:FnScope ["_law_names","e"] ["_law_names"] (defScope s_keeper_refused):=⟨rfl,rfl,rfl,by decide +kernel,rfl,by decide +kernel,by decide +kernel⟩
theorem ok_krefused {f:Addr} {fd:FuncData} (F:Fun K "_law_keeper_refused" "_law_keeper_refused" s_keeper_refused f fd) (T:TxtK4 K mg KPT SGN MVG BLK CR CP CK) {e0:Addr} (he0:∀ H:Hp,SqT K H e0 []) (MKeeper:Ml P w K mg base (L2.CX P w) 6 "Keeper" CK (fun vs H Q E=>spKI04 TS K CK CBN (vs++[.ref e0]) H Q E)) (gBN:mg "BadNames"=some (.ref CBN)) (FBN:XfC K CBN) (noAt:PySem.W.findIn K (.ref CBN) "at"=some none) (hex:PySem.W.exmOne K (.ref CBN) (.ref CBN)=some true):FnR P w K mg base CX0 8 f (spKRef04 TS):=by
 refine fnr F sc_keeper_refused (fun vs H Q E h=>?_) (fun _ _ _ _ _ _ us hl=>match us,hl with | [_],_=>rfl) (fun cdv A outer s H vs Q E hr h=>?_)
 ·obtain ⟨p,ss,rfl,_⟩:=h
  rfl
 ·obtain ⟨p,zs,rfl,hp,h1,h6,hl,k⟩:=h
  refine ⟨_,pss_cons (ps_try_manyAs (n:="e") (i:=1) (l:=[(.ref CBN,_)]) rfl rfl sc_keeper_refused.nd rfl rfl takes_none5 (fun W pn xe tk hp=>pss_one (ps_expr (pe_mlS (P:=P) (w:=w) (K:=K) (mg:=mg) (base:=base) (by rfl) (by rfl) (by rfl) (by rfl) (by rfl) MKeeper hr (by decide) (by rfl) (fun σ=>passAt tk σ) (pa_cons (pv 0) pa_nil))))
    (.cons ⟨rfl,by decide,.inl gBN⟩ (fun a oe cls d pn hz dt=>pss_one (ps_ret (pe_xf FBN noAt hz dt (pv 1)))) .nil)) (pss_one (ps_ret pe_non)),?_⟩
  walk_at "rd"
  intro x dx nx ndx nd
  have E2:Ev TS [] H (upd (upd H dx (.own x)) x (.ins CK dx [])):=(Ev.trans (Ev.new ndx) (Ev.new (by rw [upd_ne (Ne.symm nd)]; exact nx)) trivial)
  have nx0:NA H x:=NA.of nx
  refine ⟨x,dx,p,e0,zs,rfl,upd_same,ev_lst E2 hp trivial,he0 _,h1,h6,hl,fun hb H3 e3=>⟨rfl,?_⟩,fun i hi=>?_⟩
  ·walk_at "rd"
   have:=k H3 (E2.trans e3 ⟨.inr nx0,trivial⟩)
   rw [hb] at this
   exact this
  ·generalize upd (upd H dx (.own x)) x (.ins CK dx [])=H2 at E2 ⊢
   refine fun d H3 e3 hd3=>⟨true,hex,fun _ a na=>?_,fun z=>by cases z⟩
   have k2:=k H3 (E2.trans e3 trivial)
   rw [hi] at k2
   walk_at "rd"
   first | exact ⟨d,_,_,rfl,hd3,rfl,k2⟩ | exact ⟨_,_,hd3,rfl,k2⟩ | exact ⟨_,hd3,rfl,k2⟩
end
def spAny (TS:List (Addr × Str)):Sp:=fun vs H Q _=>∃ (b kq:Addr) (n m:Nat),vs=[.ref b,.int (m:Int),.ref kq]∧BagB H b n∧n+300 < 1000000∧m≤7∧H kq=some (.lst (keptL.map V.str))∧∀ (p:Addr) (H':Hp) (zs:List Str),NA H p→(∀ z∈zs,wordB z=true)→zs.Nodup→zs.length=m→Ev TS [b] H H'→BagB H' b (n+9 * m)→H' p=some (.lst (zs.map V.str))→Q (.ref p) H'
theorem word_low {z:Str} (h1:1≤z.length) (h8:z.length≤8) (hl:∀ d∈z.cps.toList,Low d) (hk:z∉keptL):wordB z=true:=by
 unfold wordB
 rw [decide_eq_true ⟨h1,h8⟩,decide_eq_false hk,Bool.true_and,Bool.not_false,Bool.true_and,List.all_eq_true]
 intro d hd
 have lo:=hl d hd
 have k:∀ j,j < 26→97+j∈LET.cps.toList:=by decide +kernel
 have:=k (d - 97) (by unfold Low at lo; omega)
 have ed:97+(d - 97)=d:=by unfold Low at lo; omega
 rw [ed] at this
 exact decide_eq_true this
theorem kl25:keptL.length=25:=by decide +kernel
theorem kept_pre:∀ a∈keptL,∀ b∈keptL,a.cps.toList.dropLast=b.cps.toList.dropLast→a=b:=by decide +kernel
theorem others_pos4 {z:Str} {ps:Ps} (h:ps.length≤7):0 < (othersL z (ps++keptL) LET.cps.toList).length:=by
 rcases Nat.eq_zero_or_pos (othersL z (ps++keptL) LET.cps.toList).length with e | e
 ·exfalso
  have nd:(LET.cps.toList.map (relet z)).Nodup:=by
   have k:LET.cps.toList.Nodup:=by decide +kernel
   exact List.Pairwise.map (relet z) (fun a b hab hz=>hab (relet_inj hz)) k
  have sub:∀ x∈LET.cps.toList.map (relet z),x∈ps++keptL:=fun x hx=>by
   obtain ⟨c,hc,rfl⟩:=List.mem_map.mp hx
   unfold othersL at e
   rw [List.length_map,List.length_eq_zero_iff,List.filter_eq_nil_iff] at e
   exact Classical.byContradiction fun hn=>e c hc (by rw [decide_eq_false hn]; rfl)
  have one:∀ x∈LET.cps.toList.map (relet z),∀ y∈LET.cps.toList.map (relet z),x∈keptL→y∈keptL→x=y:=fun x hx y hy kx ky=>by
   obtain ⟨c,_,rfl⟩:=List.mem_map.mp hx
   obtain ⟨d,_,rfl⟩:=List.mem_map.mp hy
   refine kept_pre _ kx _ ky ?_
   rw [relet_cps,relet_cps,List.dropLast_concat,List.dropLast_concat]
  -- all but one are in ps
  by_cases hk:∃ x∈LET.cps.toList.map (relet z),x∈keptL
  ·obtain ⟨x,hx,kx⟩:=hk
   have s2:∀ y∈LET.cps.toList.map (relet z),y∈x :: ps:=fun y hy=>by
    rcases List.mem_append.mp (sub y hy) with h1 | h1
    ·exact .tail _ h1
    ·rw [one y hy x hx h1 kx]
     exact .head _
   have:=nodup_le nd s2
   rw [List.length_map,List.length_cons] at this
   have k:LET.cps.toList.length=26:=by decide +kernel
   omega
  ·have s2:∀ y∈LET.cps.toList.map (relet z),y∈ps:=fun y hy=>by
    rcases List.mem_append.mp (sub y hy) with h1 | h1
    ·exact h1
    ·exact absurd ⟨y,hy,h1⟩ hk
   have:=nodup_le nd s2
   rw [List.length_map] at this
   have k:LET.cps.toList.length=26:=by decide +kernel
   omega
 ·exact e
theorem relet_low {z:Str} {c:Nat} (hl:∀ d∈z.cps.toList,Low d) (hc:c∈LET.cps.toList):1≤(relet z c).length∧(relet z c).length≤8∧∀ d∈(relet z c).cps.toList,Low d:=by
 have e:(relet z c).length=(z.cps.toList.take 7).length+1:=by
  rw [← len_cps,relet_cps,List.length_append]
  rfl
 refine ⟨by omega,by rw [e,List.length_take]; omega,fun d hd=>?_⟩
 rw [relet_cps] at hd
 rcases List.mem_append.mp hd with h1 | h1
 ·exact hl d (List.mem_of_mem_take h1)
 ·rw [List.mem_singleton.mp h1]
  exact let_low hc
section
variable {P:Program} {w:World} {K:PySem.W.Frag} {mg:Str→Option Value} {base:Heap} {TS:List (Addr × Str)}
theorem sc_any_words:FnScope ["_law_bag_here","_law_count","_law_kept","_law_alphabet","_law_found","_law_turn","_law_more","_law_others","_law_word","_law_known","_law_sign"] ["_law_bag_here","_law_count","_law_kept"] (defScope s_any_words):=⟨rfl,rfl,rfl,by decide +kernel,rfl,by decide +kernel,by decide +kernel⟩
theorem ok_any_words {f:Addr} {fd:FuncData} (F:Fun K "_law_any_words" "_law_any_words" s_any_words f fd) (T:Blt mg) (Dtake:Cl P w K mg base CX0 1 "_law_take" spTake):FnR P w K mg base CX0 3 f (spAny TS):=by
 refine fnr F sc_any_words (fun vs H Q E h=>?_) (fun _ _ _ _ _ _ us hl=>match us,hl with | [_,_,_],_=>rfl) (fun cdv A outer s H vs Q E hr h=>?_)
 ·obtain ⟨b,kq,n,m,rfl,_⟩:=h
  rfl
 ·obtain ⟨b,kq,n,m,rfl,hb,hn,hm,hk,k⟩:=h
  refine ⟨_,(pss_cons (ps_par (i:=3) (j:=4) (by rfl) sc_any_words.nd rfl rfl (by decide) rfl rfl (pa_cons pe_str (pa_cons (pe_lst pa_nil) pa_nil)) (by rfl))
   (pss_cons (ps_for PassesOwn.never rfl (pi_range1 (by rfl) T.n_range (pa_cons (pv 1) pa_nil)) (pg_name (i:=5) sc_any_words.nd rfl (Or.inl rfl))
    (pss_cons (ps_asg (pe_tup (pa_cons pe_str (pa_cons (pe_op op_cat (pv 4) (pv 2)) pa_nil))) (pg_tup rfl (pgs_cons (pg_name (i:=8) sc_any_words.nd rfl (Or.inr rfl)) (pgs_cons (pg_name (i:=9) sc_any_words.nd rfl (Or.inr rfl)) pgs_nil))))
    (pss_cons (ps_for PassesOwn.never rfl (pi_range1 (by rfl) T.n_range (pa_cons (pe_op op_add pe_int (pe_cl Dtake hr (by decide) (by rfl) pass0 (pa_cons (pv 0) (pa_cons pe_int pa_nil)))) pa_nil)) (pg_name (i:=6) sc_any_words.nd rfl (Or.inl rfl))
     (pss_one (ps_set (i:=8) sc_any_words.nd rfl (Or.inr rfl) (pe_op op_add_str (pv 8) (pe_ix ix_str (pv 3) (by exact (pe_cl Dtake hr (by decide) (by rfl) pass0 (pa_cons (pv 0) (pa_cons pe_int pa_nil)))) (fun _ _=>rfl))))))
    (pss_cons (ps_setLc (i:=7) (own:=[("_law_sign",10)]) (by rfl) sc_any_words.nd rfl rfl (sw_true rfl rfl rfl (by decide +kernel)) (pi_str (pv 3)) (blkOk_by (own:=[("_law_sign",10)]) (N:=["_law_bag_here","_law_count","_law_kept","_law_alphabet","_law_found","_law_turn","_law_more","_law_others","_law_word","_law_known","_law_sign"]) (sc:=defScope s_any_words) (by first | decide +kernel | kernel_rfl)) (fun _ _ _ _ _=>(pg_name (i:=10) sc_any_words.nd rfl (Or.inl rfl))) (fun _ _ _ _ _=>by exact (pts_one (pt_cmpR (op_notIn_seqK (K:=K) (by rfl)) (pe_op op_add_str (pe_slice sl_str (pv 8) po_none (po_some pe_int)) (pv 10)) (pv 9) (by rfl)))) (fun _ _ _ _ _=>by exact (pe_op op_add_str (pe_slice sl_str (pv 8) po_none (po_some pe_int)) (pv 10))))
    (pss_one (ps_expr (pe_bm PySem.F.plainAttrs_list PySem.F.slot_list_append PySem.F.type_list_append mt_append (pv 4) (pa_cons (pe_ifExp (pt_cmpR op_in_seq (pv 8) (pv 9) rfl) (pe_ix ix_list (pv 7) pe_int (fun _ _=>rfl)) (pv 8)) pa_nil))))))))
   (pss_one (ps_ret (pv 4))))),?_⟩
  walk_at "rd"
  refine ⟨by show 0≤sizeLine; decide,fun q hq=>?_⟩
  generalize hX:upd _ q _=H1
  obtain ⟨e1,h1⟩:=new_facts (TS:=TS) hX hq
  clear hX
  walk_at "rs"
  have nbq:b≠q:=fun z=>NA.of hq (z ▸ Al.bag hb)
  have nkq:kq≠q:=fun z=>NA.of hq (z ▸ Al.lst hk)
  have nbk:b≠kq:=fun z=>noS_bag hb (z ▸ isS.of hk (by decide +kernel))
  have hb1:=ev_bag e1 hb trivial
  have hk1:=ev_lst e1 hk trivial
  walk_at "rd"
  first | refine ⟨_,rfl,by omega,by omega,?_⟩ | refine ⟨by omega,by omega,?_⟩
  rw [Int.toNat_natCast]
  refine for_it walk_range (fun i σ H'=>∃ (v5 v6 v7 v8 v9:Option V) (zs:List Str),σ=[some (.ref b),some (.int (m:Int)),some (.ref kq),some (.str LET),some (.ref q),v5,v6,v7,v8,v9,none]∧Ev TS [b,q] H1 H'∧BagB H' b (n+9 * i)∧H' q=some (.lst (zs.map V.str))∧(∀ z∈zs,wordB z=true)∧zs.Nodup∧zs.length=i)
   ⟨none,none,none,none,none,[],rfl,Ev.refl _ _,hb1,h1,(fun _ z=>nomatch z),List.nodup_nil,rfl⟩ (fun _ _ _ _ _=>trivial) ?_ ?_
  ·rintro i y0 σ H0 H2 hi ⟨v5,v6,v7,v8,v9,zs,rfl,e2,b2,q2,hw,nd,hlen⟩ ⟨rfl,rfl⟩
   have hk2:H2 kq=some (.lst (keptL.map V.str)):=ev_lst e2 hk1 ⟨Ne.symm nbk,nkq,trivial⟩
   walk_at "rd"
   refine a_cat (TS:=TS) q2 hk2 (by rw [List.length_map,List.length_map,kl25]; exact le_line (by omega)) (fun c H3 nc e3 h3=>?_)
   rw [← List.map_append] at h3
   walk_at "rd"
   refine ⟨by show 2≤sizeLine; decide,fun t ht=>?_⟩
   generalize hX:upd _ t _=H4
   obtain ⟨e4,h4⟩:=new_facts (TS:=TS) hX ht
   clear hX
   walk_at "rs"
   refine ⟨t,_,rfl,SqT.of h4,rfl,?_⟩
   walk_at "rd"
   have nbc:b≠c:=fun z=>NA.of nc (z ▸ Al.bag b2)
   have nqc:q≠c:=fun z=>NA.of nc (z ▸ Al.lst q2)
   have c4:=ev_lst e4 h3 trivial
   have q4:=ev_lst e4 (ev_lst e3 q2 trivial) trivial
   have b4:=ev_bag e4 (ev_bag e3 b2 trivial) trivial
   have E4:Ev TS [b,q] H1 H4:=(e2.trans e3 trivial).trans e4 trivial
   clear e2 e3 e4 h3 h4 b2 q2 hk2 ht nc
   refine take_ok (TS:=TS) b4 (by omega) (by decide) (by decide) (fun r5 H5 r0 r1 e5 b5=>?_)
   obtain ⟨k5,rfl⟩ : ∃ j:Nat,r5=(j:Int):=⟨r5.toNat,by omega⟩
   have c5:=ev_lst e5 c4 ⟨Ne.symm nbc,trivial⟩
   have q5:=ev_lst e5 q4 ⟨Ne.symm nbq,trivial⟩
   have E5:Ev TS [b,q] H1 H5:=E4.trans e5 ⟨.inl (by simp),trivial⟩
   clear e5 c4 q4 b4 E4
   walk_at "rd"
   rw [show (1:Int)+(k5:Int)=((1+k5:Nat):Int) by omega]
   refine ⟨by omega,by omega,?_⟩
   rw [Int.toNat_natCast]
   refine for_it walk_range (fun j σ H'=>∃ (v6:Option V) (z:Str) (cs:List Nat),σ=[some (.ref b),some (.int (m:Int)),some (.ref kq),some (.str LET),some (.ref q),some (.int (0+(i:Int))),v6,v7,some (.str z),some (.ref c),none]∧Ev TS [b] H5 H'∧BagB H' b (n+9 * i+1+j)∧z.cps.toList=cs∧(∀ d∈cs,Low d)∧cs.length=j)
    ⟨v6,Str.ofString "",[],rfl,Ev.refl _ _,b5,by decide +kernel,(fun _ z=>nomatch z),rfl⟩ (fun _ _ _ _ _=>trivial) ?_ ?_
   ·rintro j x σ H0 H' hj ⟨v6,z,cs,rfl,e6,b6,ez,hcs,hcl⟩ ⟨rfl,rfl⟩
    have zl:z.length=j:=by rw [← len_cps,ez,hcl]
    walk_at "rd"
    refine take_ok (TS:=TS) b6 (by omega) (by decide) (by decide) (fun r7 H7 t0 t1 e7 b7=>?_)
    obtain ⟨j4,rfl⟩ : ∃ j:Nat,r7=(j:Int):=⟨r7.toNat,by omega⟩
    have hj4:j4 < LET.cps.toList.length:=by
     have:LET.cps.toList.length=26:=by decide +kernel
     omega
    refine ⟨LET,(j4:Int),LET.cps.toList[j4],rfl,rfl,by decide +kernel,by rw [atI_nat hj4]; exact List.getElem?_eq_getElem hj4,?_⟩
    have hc:=let_low (List.getElem_mem hj4)
    generalize LET.cps.toList[j4]=c' at hc
    walk_at "rd"
    refine ⟨by show z.length+1≤sizeLine; exact le_line (by omega),?_⟩
    walk_at "rd"
    refine ⟨_,_,cs++[c'],rfl,e6.trans e7 ⟨.inl (by simp),trivial⟩,b7,?_,fun d hd=>?_,by rw [List.length_append,hcl]; rfl⟩
    ·rw [app_cps,ez]
    ·rcases List.mem_append.mp hd with h | h
     ·exact hcs d h
     ·rw [List.mem_singleton.mp h]
      exact hc
   ·rintro σ H6 ⟨v6,z,cs,rfl,e6,b6,ez,hcs,hcl⟩
    have zl:z.length=1+k5:=by rw [← len_cps,ez,hcl]
    have hcs':∀ d∈z.cps.toList,Low d:=by rw [ez]; exact hcs
    have c6:H6 c=some (.lst ((zs++keptL).map V.str)):=ev_lst e6 c5 ⟨Ne.symm nbc,trivial⟩
    have q6:=ev_lst e6 q5 ⟨Ne.symm nbq,trivial⟩
    have E6:Ev TS [b,q] H1 H6:=E5.trans e6 ⟨.inl (by simp),trivial⟩
    have b6':BagB H6 b (n+9 * (i+1)):=b6.mono (by omega)
    have kl:(zs++keptL).length≤40:=by rw [List.length_append,kl25]; omega
    clear e6 b6 b5 c5 q5 E5
    walk_at "rd"
    refine fun D hD=>lc_ev (TS:=TS) walk_str hD (fun j acc H'=>Ev TS [] H6 H'∧acc=(othersL z (zs++keptL) (LET.cps.toList.take j)).map V.str) (fun H4 e4 h4=>⟨e4,by simp [othersL]⟩) (fun _ _ _ _ _ _=>trivial) ?_ ?_
    ·rintro j y acc Hz H8 hj ⟨e8,rfl⟩ hD8 ⟨rfl,cc,hcc,rfl⟩
     have ec:LET.cps.toList[j]? = some cc:=by rw [Array.getElem?_toList]; exact hcc
     have tk:LET.cps.toList.take (j+1)=LET.cps.toList.take j++[cc]:=by
      rw [List.take_add_one,ec]
      rfl
     have p8:H8 c=some (.lst ((zs++keptL).map V.str)):=ev_lst e8 c6 trivial
     have nd:NA H6 D:=.of hD
     have zl7:=relet_len z cc
     walk_at "rd"
     refine ⟨le_line (by omega),?_⟩
     walk_at "rd"
     refine ⟨by show (cutS z none (some 7)).length+1≤sizeLine; exact le_line (by omega),?_⟩
     walk_at "rd"
     refine a_notInS (zs++keptL) (.inl (SqL.of p8)) rfl ?_
     walk_at "rd"
     have fil:othersL z (zs++keptL) (LET.cps.toList.take (j+1))=othersL z (zs++keptL) (LET.cps.toList.take j)++(if (!decide (relet z cc∈zs++keptL))=true then [relet z cc] else []):=by
      unfold othersL
      rw [tk,List.filter_append,List.map_append,List.filter_cons,List.filter_nil]
      split <;> rfl
     refine ite2 (fun cq=>?_) (fun cq=>?_)
     ·rw [if_pos (show (!decide (relet z cc∈zs++keptL))=true from cq)] at fil
      walk_at "rd"
      refine ⟨le_line (by omega),?_⟩
      walk_at "rd"
      refine ⟨by show (cutS z none (some 7)).length+1≤sizeLine; exact le_line (by omega),?_⟩
      walk_at "rd"
      refine lc_put (TS:=TS) hD8 (by
       rw [List.length_map]
       unfold othersL
       rw [List.length_map]
       have h1:=List.length_filter_le (fun c=>!decide (relet z c∈zs++keptL)) (LET.cps.toList.take j)
       have h2:LET.cps.toList.length=26:=by decide +kernel
       rw [List.length_take] at h1
       exact lt_line (by omega)) fun H9 e9 h9=>?_
      refine ⟨e8.trans e9 ⟨.inr nd,trivial⟩,?_⟩
      rw [fil,List.map_append]
      rfl
     ·rw [if_neg (show ¬ (!decide (relet z cc∈zs++keptL))=true from cq),List.append_nil] at fil
      refine ⟨_,hD8,e8,?_⟩
      rw [fil]
    ·rintro acc H8 ⟨e8,rfl⟩ hD8
     have ez:LET.cps.toList.take LET.cps.size=LET.cps.toList:=by
      rw [show LET.cps.size=LET.cps.toList.length by simp,List.take_length]
     rw [ez] at hD8
     have hpos:=others_pos4 (z:=z) (ps:=zs) (by omega)
     have c8:=ev_lst e8 c6 trivial
     have q8:=ev_lst e8 q6 trivial
     have b8:=ev_bag e8 b6' trivial
     have E8:Ev TS [b,q] H1 H8:=E6.trans e8 trivial
     clear e8 c6 q6 b6' E6
     walk_at "rd"
     have fin:∀ y:Str,wordB y=true→y∉zs→∀ H9,Ev TS [q] H8 H9→H9 q=some (.lst (zs.map V.str++[V.str y]))→∃ (w5 w6 w7 w8 w9:Option V) (zs':List Str),[some (V.ref b),some (.int (m:Int)),some (.ref kq),some (.str LET),some (.ref q),some (.int (0+(i:Int))),v6,some (.ref D),some (.str z),some (.ref c),none]=[some (V.ref b),some (.int (m:Int)),some (.ref kq),some (.str LET),some (.ref q),w5,w6,w7,w8,w9,none]∧Ev TS [b,q] H1 H9∧BagB H9 b (n+9 * (i+1))∧H9 q=some (.lst (zs'.map V.str))∧(∀ z∈zs',wordB z=true)∧zs'.Nodup∧zs'.length=i+1:=fun y hy hn H9 e9 h9 =>
      ⟨_,_,_,_,_,zs++[y],rfl,E8.trans e9 ⟨.inl (by simp),trivial⟩,ev_bag e9 b8 ⟨nbq,trivial⟩,by rw [h9,List.map_append]; rfl,fun u hu=>(List.mem_append.mp hu).elim (hw u) (fun e=>by rw [List.mem_singleton.mp e]; exact hy),List.nodup_append.mpr ⟨nd,List.nodup_cons.mpr ⟨List.not_mem_nil,List.nodup_nil⟩,fun a ha b' hb' e=>hn (by rw [List.mem_singleton.mp hb'] at e; rw [← e]; exact ha)⟩,by rw [List.length_append,hlen]; rfl⟩
     refine ⟨.inl ⟨rfl,_,SqL.of q8⟩,?_⟩
     walk_at "rd"
     refine a_inS (zs++keptL) (.inl (SqL.of c8)) rfl ?_
     walk_at "rd"
     refine ite2 (fun cq=>?_) (fun cq=>?_)
     ·walk_at "rd"
      refine a_ixS 0 hD8 hpos ?_
      have hm:=List.getElem_mem hpos
      have eg:(othersL z (zs++keptL) LET.cps.toList).getD 0 Str.empty=(othersL z (zs++keptL) LET.cps.toList)[0]:=by
       rw [List.getD_eq_getElem?_getD,List.getElem?_eq_getElem hpos]
       rfl
      rw [eg]
      obtain ⟨c2,hc2,e2,hn2⟩:=others_mem hm
      rw [e2] at hn2 ⊢
      obtain ⟨w1,w2,w3⟩:=relet_low hcs' hc2
      walk_at "rd"
      refine a_append (TS:=TS) q8 (by rw [List.length_map]; exact lt_line (by omega)) fun H9 e9 h9=>?_
      walk_at "rd"
      exact fin _ (word_low w1 w2 w3 fun hk=>hn2 (List.mem_append_right _ hk)) (fun hz=>hn2 (List.mem_append_left _ hz)) H9 e9 h9
     ·have cq:z∉zs++keptL:=by simpa using cq
      walk_at "rd"
      refine a_append (TS:=TS) q8 (by rw [List.length_map]; exact lt_line (by omega)) fun H9 e9 h9=>?_
      walk_at "rd"
      exact fin z (word_low (by omega) (by omega) hcs' fun hk=>cq (List.mem_append_right _ hk)) (fun hz=>cq (List.mem_append_left _ hz)) H9 e9 h9
  ·rintro σ H3 ⟨v5,v6,v7,v8,v9,zs,rfl,e2,b2,q2,hw,nd,hlen⟩
   walk_at "rd"
   exact k q H3 zs (NA.of hq) hw nd hlen ((e1.mono (fun _ z=>nomatch z)).trans e2 ⟨.inl (by simp),.inr (NA.of hq),trivial⟩) b2 q2
end
theorem tj1 (s x:Str):Txt.join s [x]=x:=by rw [TL.join_eq]; rfl
theorem tj2 (s x y:Str) (l:List Str):Txt.join s (x :: y :: l)=x++s++Txt.join s (y :: l):=by rw [TL.join_eq,TL.join_eq]; rfl
theorem app_lenS (a b:Str):(a++b).length=a.length+b.length:=by
 have h:∀ z:Str,z.length=z.cps.toList.length:=fun z=>by rw [Array.length_toList]; rfl
 rw [h,app_cps,List.length_append,← h,← h]
theorem js_c {t:TE} {ts:List TE} {acc y:Str} {σ:L2.St} {H:Hp} {Q:Str→Hp→Prop} {n:Nat} (ha:acc.length≤n) (hy:y.length≤60) (hn:n+60≤100000) (ht:∀ R:V→Hp→Prop,R (.str y) H→t σ H R) (k:(acc++y).length≤n+60→tJs ts (acc++y) σ H Q):tJs (t :: ts) acc σ H Q:=by
 have hl:(acc++y).length≤n+60:=by rw [app_lenS]; omega
 exact ht _ ⟨y,rfl,le_line (by omega),k hl⟩
theorem ht_c {y:Str} {σ:L2.St} {H:Hp}:∀ R:V→Hp→Prop,R (.str y) H→tC (.str y) σ H R:=fun R h=>h
theorem ht_v {y:Str} {i:Nat} {σ:L2.St} {H:Hp} (h:σ[i]? = some (some (.str y))) (hy:y.length≤60):∀ R:V→Hp→Prop,R (.str y) H→tFmt (tVar i) σ H R:=fun R hR=>by
 exact ⟨_,h,.inl ⟨y,rfl,le_line (by omega),hR⟩⟩
theorem ls1 (z:Str):lineS [z]=z:=tj1 sp1 z
inductive RowsL (H:Hp):List Addr→List R04→Prop
 | nil:RowsL H [] []
 | cons {t l:Addr} {ts:List Addr} {r:R04} {rs:List R04} (h:H t=some (.tup [.ref l,dueO r.2])) (g:H l=some (.lst ((r.1.map lineS).map V.str))) (k:RowsL H ts rs):RowsL H (t :: ts) (r :: rs)
theorem RowsL.ev {TS:List (Addr × Str)} {H H':Hp} {ts:List Addr} {rs:List R04} (h:RowsL H ts rs) (e:Ev TS [] H H'):RowsL H' ts rs:=by
 induction h with
 | nil=>exact .nil
 | cons h g _ ih=>exact .cons (ev_tup e h) (ev_lst e g trivial) ih
theorem RowsL.evD {TS:List (Addr × Str)} {H H':Hp} {D:Addr} {as ts:List Addr} {rs:List R04} (h:RowsL H ts rs) (e:Ev TS [D] H H') (hD:H D=some (.lst (as.map V.ref))) (hne:∀ r∈rs,r.1≠[]):RowsL H' ts rs:=by
 induction h with
 | nil=>exact .nil
 | @cons t l ts r rs h g _ ih =>
  refine .cons (ev_tup e h) (ev_lst e g ⟨fun z=>?_,trivial⟩) (ih fun r hr=>hne r (.tail _ hr))
  subst z
  rw [hD] at g
  have g:=HO.lst.inj (Option.some.inj g)
  cases as with
  | nil =>
   have:=congrArg List.length g
   simp only [List.length_map,List.length_nil] at this
   exact hne r (.head _) (List.length_eq_zero_iff.mp this.symm)
  | cons a as =>
   cases hr:r.1 with
   | nil=>exact hne r (.head _) hr
   | cons p ps=>rw [hr] at g; cases g
theorem RowsL.app {H:Hp} {ts us:List Addr} {rs ss:List R04} (h:RowsL H ts rs) (k:RowsL H us ss):RowsL H (ts++us) (rs++ss):=by
 induction h with
 | nil=>exact k
 | cons h g _ ih=>exact .cons h g ih
theorem RowsL.len {H:Hp} {ts:List Addr} {rs:List R04} (h:RowsL H ts rs):ts.length=rs.length:=by
 induction h with
 | nil=>rfl
 | cons _ _ _ ih=>rw [List.length_cons,List.length_cons,ih]
theorem RowsL.at {H:Hp} {ts:List Addr} {rs:List R04} (h:RowsL H ts rs):∀ {i:Nat} {t:Addr},ts[i]? = some t→∃ r l,rs[i]? = some r∧H t=some (.tup [.ref l,dueO r.2])∧H l=some (.lst ((r.1.map lineS).map V.str)):=by
 induction h with
 | nil=>intro i t e; simp at e
 | cons h g _ ih =>
  intro i t e
  cases i with
  | zero =>
   obtain rfl:=Option.some.inj e
   exact ⟨_,_,rfl,h,g⟩
  | succ i=>exact ih e
def RowsQ (H:Hp) (v:V) (rs:List R04):Prop:=∃ (p:Addr) (ts:List Addr),v=.ref p∧H p=some (.lst (ts.map V.ref))∧RowsL H ts rs
theorem RowsQ.mk {H:Hp} {p:Addr} {ts:List Addr} {rs:List R04} (h:H p=some (.lst (ts.map V.ref))) (k:RowsL H ts rs):RowsQ H (.ref p) rs:=⟨p,ts,rfl,h,k⟩
theorem RowsQ.get {H:Hp} {p:Addr} {rs:List R04} (h:RowsQ H (.ref p) rs):∃ ts:List Addr,H p=some (.lst (ts.map V.ref))∧RowsL H ts rs:=by
 obtain ⟨p',ts,e,h1,h2⟩:=h
 cases e
 exact ⟨ts,h1,h2⟩
theorem RowsQ.ev {TS:List (Addr × Str)} {H H':Hp} {v:V} {rs:List R04} (h:RowsQ H v rs) (e:Ev TS [] H H'):RowsQ H' v rs:=by
 obtain ⟨p,ts,rfl,h1,h2⟩:=h
 exact ⟨p,ts,rfl,ev_lst e h1 trivial,h2.ev e⟩
def LsAt (H:Hp) (o:Option V) (T:List Ps):Prop:=∃ l,o=some (.ref l)∧H l=some (.lst ((T.map lineS).map V.str))
theorem LsAt.ev {TS:List (Addr × Str)} {H H':Hp} {o:Option V} {T:List Ps} (h:LsAt H o T) (e:Ev TS [] H H'):LsAt H' o T:=by
 obtain ⟨l,e1,h1⟩:=h
 exact ⟨l,e1,ev_lst e h1 trivial⟩
def RsAt (H:Hp) (o:Option V) (R:List R04):Prop:=∃ l,o=some (.ref l)∧∃ ts:List Addr,H l=some (.lst (ts.map V.ref))∧RowsL H ts R
theorem RsAt.ev {TS:List (Addr × Str)} {H H':Hp} {o:Option V} {R:List R04} (h:RsAt H o R) (e:Ev TS [] H H'):RsAt H' o R:=by
 obtain ⟨l,e1,ts,h1,h2⟩:=h
 exact ⟨l,e1,ts,ev_lst e h1 trivial,h2.ev e⟩
theorem a_slTo4 {TS:List (Addr × Str)} {K:PySem.W.Frag} {H:Hp} {a:Addr} {T:List Ps} {k:Nat} {Q:VK} (ha:H a=some (.lst ((T.map lineS).map V.str))) (q:∀ p H',H p=none→Ev TS [] H H'→H' p=some (.lst (((T.take k).map lineS).map V.str))→Q (.ref p) H') (hk:k≤T.length:=by exact Nat.le_of_ble_eq_true rfl):rSlL K (.ref a) none (some (k:Int)) H Q:=
 ⟨a,_,rfl,SqL.of ha,fun p hp=>q p _ hp (Ev.new hp) (by
  unfold cutV
  rw [HT.sIx_none,HT.sIx_nat,List.length_map,List.length_map,Nat.min_eq_left hk,List.drop_zero,Nat.sub_zero,← List.map_take,← List.map_take]
  exact upd_same)⟩
theorem Ws04.len {ws:List Str} (h:Ws04 ws) {z:Str} (hz:z∈ws):1≤z.length∧z.length≤8:=by
 have:=h.w z hz
 unfold wordB at this
 rw [Bool.and_eq_true] at this
 exact of_decide_eq_true this.1
def InvPr (TS:List (Addr × Str)) (Hs:Hp) (wa wb wx wf wg wp wq:Str) (kn tw th:Option (List Ps)) (rows:Option (List R04)) (σ:L2.St) (H':Hp):Prop:=∃ (o7 o8 o9 o10:Option V),σ=[some (.str wa),some (.str wb),some (.str wx),some (.str wf),some (.str wg),some (.str wp),some (.str wq),o7,o8,o9,o10]∧Ev TS [] Hs H'∧(∀ T,kn=some T→LsAt H' o7 T)∧(∀ T,tw=some T→LsAt H' o9 T)∧(∀ T,th=some T→LsAt H' o10 T)∧∀ R,rows=some R→RsAt H' o8 R
def InvPl (TS:List (Addr × Str)) (Hs:Hp) (wa wb wp wq:Str) (st:Bool) (rows:Option (List R04)) (σ:L2.St) (H':Hp):Prop:=∃ (o4 o5 o6 o7 o8 o9:Option V),σ=[some (.str wa),some (.str wb),some (.str wp),some (.str wq),o4,o5,o6,o7,o8,o9]∧Ev TS [] Hs H'∧(st=true→o4=some (.str (lineS [("take" : Str),wp,("spot" : Str),wa]))∧o5=some (.str (lineS [("take" : Str),wp,("turn" : Str),wb])))∧∀ R,rows=some R→RsAt H' o6 R
theorem fs4_0 (x0 x1:Str):Str.empty ++ "take " ++ x0 ++ " turn " ++ x1=lineS [("take" : Str),x0,("turn" : Str),x1]:=by
 refine str_ext ?_
 show _=(Txt.join sp1 [("take" : Str),x0,("turn" : Str),x1]).cps.toList
 simp only [tj1,tj2,app_cps,List.append_assoc]
 kernel_rfl
theorem fs4_1 (x0 x1 x2:Str):Str.empty ++ "define " ++ x0 ++ " " ++ x1 ++ " " ++ x2=lineS [("define" : Str),x0,x1,x2]:=by
 refine str_ext ?_
 show _=(Txt.join sp1 [("define" : Str),x0,x1,x2]).cps.toList
 simp only [tj1,tj2,app_cps,List.append_assoc]
 kernel_rfl
theorem fs4_2 (x0:Str):Str.empty ++ "define " ++ x0=lineS [("define" : Str),x0]:=by
 refine str_ext ?_
 show _=(Txt.join sp1 [("define" : Str),x0]).cps.toList
 simp only [tj1,tj2,app_cps,List.append_assoc]
 kernel_rfl
theorem fs4_3 (x0 x1 x2 x3:Str):Str.empty ++ "define " ++ x0 ++ " " ++ x1 ++ " " ++ x2 ++ " " ++ x3=lineS [("define" : Str),x0,x1,x2,x3]:=by
 refine str_ext ?_
 show _=(Txt.join sp1 [("define" : Str),x0,x1,x2,x3]).cps.toList
 simp only [tj1,tj2,app_cps,List.append_assoc]
 kernel_rfl
theorem fs4_4 (x0 x1:Str):Str.empty ++ "call " ++ x0 ++ " " ++ x1=lineS [("call" : Str),x0,x1]:=by
 refine str_ext ?_
 show _=(Txt.join sp1 [("call" : Str),x0,x1]).cps.toList
 simp only [tj1,tj2,app_cps,List.append_assoc]
 kernel_rfl
theorem fs4_5 (x0 x1:Str):Str.empty ++ "define " ++ x0 ++ " " ++ x1=lineS [("define" : Str),x0,x1]:=by
 refine str_ext ?_
 show _=(Txt.join sp1 [("define" : Str),x0,x1]).cps.toList
 simp only [tj1,tj2,app_cps,List.append_assoc]
 kernel_rfl
theorem fs4_6 (x0 x1 x2:Str):Str.empty ++ "call " ++ x0 ++ " " ++ x1 ++ " " ++ x2=lineS [("call" : Str),x0,x1,x2]:=by
 refine str_ext ?_
 show _=(Txt.join sp1 [("call" : Str),x0,x1,x2]).cps.toList
 simp only [tj1,tj2,app_cps,List.append_assoc]
 kernel_rfl
theorem fs4_7 (x0 x1:Str):Str.empty ++ "take " ++ x0 ++ " order " ++ x1 ++ " down"=lineS [("take" : Str),x0,("order" : Str),x1,("down" : Str)]:=by
 refine str_ext ?_
 show _=(Txt.join sp1 [("take" : Str),x0,("order" : Str),x1,("down" : Str)]).cps.toList
 simp only [tj1,tj2,app_cps,List.append_assoc]
 kernel_rfl
theorem fs4_8 (x0 x1:Str):Str.empty ++ "move " ++ x0 ++ " " ++ x1=lineS [("move" : Str),x0,x1]:=by
 refine str_ext ?_
 show _=(Txt.join sp1 [("move" : Str),x0,x1]).cps.toList
 simp only [tj1,tj2,app_cps,List.append_assoc]
 kernel_rfl
theorem fs4_9 (x0 x1:Str):Str.empty ++ "cut " ++ x0 ++ " " ++ x1=lineS [("cut" : Str),x0,x1]:=by
 refine str_ext ?_
 show _=(Txt.join sp1 [("cut" : Str),x0,x1]).cps.toList
 simp only [tj1,tj2,app_cps,List.append_assoc]
 kernel_rfl
theorem fs4_10 (x0 x1:Str):Str.empty ++ "take " ++ x0 ++ " spot " ++ x1=lineS [("take" : Str),x0,("spot" : Str),x1]:=by
 refine str_ext ?_
 show _=(Txt.join sp1 [("take" : Str),x0,("spot" : Str),x1]).cps.toList
 simp only [tj1,tj2,app_cps,List.append_assoc]
 kernel_rfl
def spProcs4 (TS:List (Addr × Str)):Sp:=fun vs H Q _=>∃ (a b x f g p q:Str),vs=[.str a,.str b,.str x,.str f,.str g,.str p,.str q]∧Ws04 [a,b,x,f,g,p,q]∧∀ (r:Addr) (H':Hp),Ev TS [] H H'→RowsQ H' (.ref r) (pr04_16 a b x f g p q)→Q (.ref r) H'
section
variable {P:Program} {w:World} {K:PySem.W.Frag} {mg:Str→Option Value} {base:Heap}
theorem sc_procedures:FnScope ["_law_a","_law_b","_law_x","_law_f","_law_g","_law_p","_law_q","_law_known","_law_found","_law_two","_law_three"] ["_law_a","_law_b","_law_x","_law_f","_law_g","_law_p","_law_q"] (defScope s_procedures):=⟨rfl,rfl,rfl,by decide +kernel,rfl,by decide +kernel,by decide +kernel⟩
theorem pr_s16 (TS:List (Addr × Str)) {f:Addr} (cdv:Value) (A:Around) (outer:List Env) (s:Shared) (Hs H:Hp) (Q:VK) (E0:XK) (wa wb wx wf wg wp wq:Str) (W4:Ws04 [wa,wb,wx,wf,wg,wp,wq]) (kk:∀ (r:Addr) (H':Hp),Ev TS [] Hs H'→RowsQ H' (.ref r) (pr04_16 wa wb wx wf wg wp wq)→Q (.ref r) H') (hr:Room 0 (A.deeper (envOfC "_law_procedures" (defScope s_procedures) s.heap.objs.size f cdv))):∃ t,PSs (cxOf CX0 P w K mg base ["_law_a","_law_b","_law_x","_law_f","_law_g","_law_p","_law_q","_law_known","_law_found","_law_two","_law_three"] "_law_procedures" (defScope s_procedures) f cdv A outer s H E0).nox ((defBody s_procedures).drop 16) t∧∀ σ H',InvPr TS Hs wa wb wx wf wg wp wq (some [[("define" : Str),wf,wx],[("take" : Str),wp,("spot" : Str),wx],[("end" : Str)]]) (some [[("define" : Str),wf,wx,wa],[("take" : Str),wa,("order" : Str),wa,("down" : Str)],[("move" : Str),wx,wa],[("end" : Str)]]) (some [[("define" : Str),wf,wx,wa],[("take" : Str),wa,("order" : Str),wa,("down" : Str)],[("move" : Str),wx,wa],[("end" : Str)],[("define" : Str),wg,wp],[("call" : Str),wf,wp,wp],[("end" : Str)],[("define" : Str),wq,wg]]) (some (pr04_15 wa wb wx wf wg wp wq)) σ H'→t { nx:=fun _ H'=>Q .non H',rt:=Q } σ H':=by
 have l_wa:=W4.len (z:=wa) (by simp)
 have l_wb:=W4.len (z:=wb) (by simp)
 have l_wx:=W4.len (z:=wx) (by simp)
 have l_wf:=W4.len (z:=wf) (by simp)
 have l_wg:=W4.len (z:=wg) (by simp)
 have l_wp:=W4.len (z:=wp) (by simp)
 have l_wq:=W4.len (z:=wq) (by simp)
 refine ⟨_,(pss_one (ps_ret (pe_op op_cat (pv 8) (pe_lst (pa_cons (pe_tup (pa_cons (pe_op op_cat (pv 7) (pe_lst (pa_cons (pe_joined (PJ.cons pe_str (PJ.cons (pe_fmt (pv 6)) (PJ.cons pe_str (PJ.cons (pe_fmt (pv 2)) PJ.nil))))) pa_nil))) (pa_cons pe_int pa_nil))) (pa_cons (pe_tup (pa_cons (pe_op op_cat (pe_slice sl_list (pv 7) po_none (po_some pe_int)) (pe_lst (pa_cons (pe_joined (PJ.cons pe_str (PJ.cons (pe_fmt (pv 5)) (PJ.cons pe_str (PJ.cons (pe_fmt (pv 2)) PJ.nil))))) (pa_cons pe_str pa_nil)))) (pa_cons pe_int pa_nil))) pa_nil)))))),?_⟩
 rintro σ H1 ⟨o7,o8,o9,o10,rfl,E1,hk0,h20,h30,hr0⟩
 obtain ⟨lhk,rfl,hk⟩:=id (hk0 _ rfl)
 obtain ⟨lf,rfl,ts0,hf,F⟩:=id (hr0 _ rfl)
 have E:Ev TS [] H1 H1:=Ev.refl _ _
 walk_at "rd"
 refine ⟨by decide +kernel,js_c (n:=20) (y:=wq) (by decide +kernel) (by omega) (by decide) (ht_v rfl (by omega)) fun q1b1=>js_c (y:=" turn ") q1b1 (by decide +kernel) (by decide) ht_c fun q1b2=>js_c (y:=wx) q1b2 (by omega) (by decide) (ht_v rfl (by omega)) fun q1b3=>?_⟩
 walk_at "rd"
 refine ⟨by show 1≤sizeLine; decide +kernel,fun l1 n1=>?_⟩
 generalize hX:upd _ l1 _=G1
 obtain ⟨e1,g1⟩:=new_facts (TS:=TS) hX n1
 clear hX
 walk_at "rs"
 replace E:=E.trans e1 trivial
 clear n1
 replace g1:G1 l1=some (.lst (([[("take" : Str),wq,("turn" : Str),wx]].map lineS).map V.str)):=by rw [g1,fs4_0 wq wx]; simp only [List.map_cons,List.map_nil,ls1]
 refine a_cat (TS:=TS) (ev_lst E hk trivial) g1 (by simp only [List.length_map]; exact le_line (Nat.le_of_ble_eq_true rfl)) fun l2 G2 n2 e2 g2=>?_
 replace E:=E.trans e2 trivial
 clear n2
 replace g2:G2 l2=some (.lst (([[("define" : Str),wf,wx],[("take" : Str),wp,("spot" : Str),wx],[("end" : Str)],[("take" : Str),wq,("turn" : Str),wx]].map lineS).map V.str)):=by rw [g2,← List.map_append,← List.map_append]; rfl
 walk_at "rd"
 refine ⟨by show 2≤sizeLine; decide +kernel,fun t3 n3=>?_⟩
 generalize hX:upd _ t3 _=G3
 obtain ⟨e3,g3⟩:=new_facts (TS:=TS) hX n3
 clear hX
 walk_at "rs"
 replace E:=E.trans e3 trivial
 clear n3
 have rs:RowsL G3 _ _:=.cons (r:=([[("define" : Str),wf,wx],[("take" : Str),wp,("spot" : Str),wx],[("end" : Str)],[("take" : Str),wq,("turn" : Str),wx]],some 4)) g3 (ev_lst e3 g2 trivial) .nil
 clear g3
 walk_at "rd"
 refine a_slTo4 (TS:=TS) (ev_lst E hk trivial) fun l4 G4 n4 e4 g4=>?_
 replace E:=E.trans e4 trivial
 replace rs:=rs.ev e4
 clear n4
 replace g4:G4 l4=some (.lst (([[("define" : Str),wf,wx],[("take" : Str),wp,("spot" : Str),wx]].map lineS).map V.str)):=g4
 have g0:=E
 walk_at "rd"
 refine ⟨by decide +kernel,js_c (n:=20) (y:=wp) (by decide +kernel) (by omega) (by decide) (ht_v rfl (by omega)) fun q2c1=>js_c (y:=" turn ") q2c1 (by decide +kernel) (by decide) ht_c fun q2c2=>js_c (y:=wx) q2c2 (by omega) (by decide) (ht_v rfl (by omega)) fun q2c3=>?_⟩
 walk_at "rd"
 refine ⟨by show 2≤sizeLine; decide +kernel,fun l5 n5=>?_⟩
 generalize hX:upd _ l5 _=G5
 obtain ⟨e5,g5⟩:=new_facts (TS:=TS) hX n5
 clear hX
 walk_at "rs"
 replace E:=E.trans e5 trivial
 replace rs:=rs.ev e5
 clear n5
 replace g5:G5 l5=some (.lst (([[("take" : Str),wp,("turn" : Str),wx],[("end" : Str)]].map lineS).map V.str)):=by rw [g5,fs4_0 wp wx]; simp only [List.map_cons,List.map_nil,ls1]
 refine a_cat (TS:=TS) (ev_lst e5 g4 trivial) g5 (by simp only [List.length_map]; exact le_line (Nat.le_of_ble_eq_true rfl)) fun l6 G6 n6 e6 g6=>?_
 replace E:=E.trans e6 trivial
 replace rs:=rs.ev e6
 clear n6
 replace g6:G6 l6=some (.lst (([[("define" : Str),wf,wx],[("take" : Str),wp,("spot" : Str),wx],[("take" : Str),wp,("turn" : Str),wx],[("end" : Str)]].map lineS).map V.str)):=by rw [g6,← List.map_append,← List.map_append]; rfl
 walk_at "rd"
 refine ⟨by show 2≤sizeLine; decide +kernel,fun t7 n7=>?_⟩
 generalize hX:upd _ t7 _=G7
 obtain ⟨e7,g7⟩:=new_facts (TS:=TS) hX n7
 clear hX
 walk_at "rs"
 replace E:=E.trans e7 trivial
 replace rs:=rs.ev e7
 clear n7
 replace rs:=RowsL.app rs (.cons (r:=([[("define" : Str),wf,wx],[("take" : Str),wp,("spot" : Str),wx],[("take" : Str),wp,("turn" : Str),wx],[("end" : Str)]],some 3)) g7 (ev_lst e7 g6 trivial) .nil)
 clear g7
 walk_at "rd"
 refine ⟨by show 2≤sizeLine; decide +kernel,fun o8 n8=>?_⟩
 generalize hX:upd _ o8 _=G8
 obtain ⟨e8,g8⟩:=new_facts (TS:=TS) hX n8
 clear hX
 walk_at "rs"
 replace E:=E.trans e8 trivial
 replace rs:=rs.ev e8
 clear n8
 have Fl:=F.len
 refine a_cat (TS:=TS) (ev_lst E hf trivial) g8 (by simp only [List.length_map,Fl]; exact le_line (Nat.le_of_ble_eq_true rfl)) fun lq Hq nq eq gq=>?_
 have rq:RowsQ Hq (.ref lq) (pr04_16 wa wb wx wf wg wp wq):=RowsQ.mk (gq.trans (by rw [show [V.ref t3,V.ref t7]=[t3,t7].map V.ref from rfl,← List.map_append]; first | done | rfl)) (((F.ev E).app rs).ev eq)
 replace E:=E.trans eq trivial
 walk_at "rd"
 exact kk lq Hq (E1.trans E trivial) rq
theorem pr_s15 (TS:List (Addr × Str)) {f:Addr} (cdv:Value) (A:Around) (outer:List Env) (s:Shared) (Hs H:Hp) (Q:VK) (E0:XK) (wa wb wx wf wg wp wq:Str) (W4:Ws04 [wa,wb,wx,wf,wg,wp,wq]) (kk:∀ (r:Addr) (H':Hp),Ev TS [] Hs H'→RowsQ H' (.ref r) (pr04_16 wa wb wx wf wg wp wq)→Q (.ref r) H') (hr:Room 0 (A.deeper (envOfC "_law_procedures" (defScope s_procedures) s.heap.objs.size f cdv))):∃ t,PSs (cxOf CX0 P w K mg base ["_law_a","_law_b","_law_x","_law_f","_law_g","_law_p","_law_q","_law_known","_law_found","_law_two","_law_three"] "_law_procedures" (defScope s_procedures) f cdv A outer s H E0).nox ((defBody s_procedures).drop 15) t∧∀ σ H',InvPr TS Hs wa wb wx wf wg wp wq (some [[("define" : Str),wf,wx],[("take" : Str),wp,("spot" : Str),wx],[("end" : Str)]]) (some [[("define" : Str),wf,wx,wa],[("take" : Str),wa,("order" : Str),wa,("down" : Str)],[("move" : Str),wx,wa],[("end" : Str)]]) (some [[("define" : Str),wf,wx,wa],[("take" : Str),wa,("order" : Str),wa,("down" : Str)],[("move" : Str),wx,wa],[("end" : Str)],[("define" : Str),wg,wp],[("call" : Str),wf,wp,wp],[("end" : Str)],[("define" : Str),wq,wg]]) (some (pr04_14 wa wb wx wf wg wp wq)) σ H'→t { nx:=fun _ H'=>Q .non H',rt:=Q } σ H':=by
 have l_wa:=W4.len (z:=wa) (by simp)
 have l_wb:=W4.len (z:=wb) (by simp)
 have l_wx:=W4.len (z:=wx) (by simp)
 have l_wf:=W4.len (z:=wf) (by simp)
 have l_wg:=W4.len (z:=wg) (by simp)
 have l_wp:=W4.len (z:=wp) (by simp)
 have l_wq:=W4.len (z:=wq) (by simp)
 obtain ⟨tl,dl,hl⟩:=pr_s16 TS (f:=f) (P:=P) (w:=w) (K:=K) (mg:=mg) (base:=base) cdv A outer s Hs H Q E0 wa wb wx wf wg wp wq W4 kk hr
 refine ⟨_,(C8.pss_cut (ps_set (i:=8) sc_procedures.nd rfl (Or.inl rfl) (pe_op op_cat (pv 8) (pe_lst (pa_cons (pe_tup (pa_cons (pe_lst (pa_cons (pe_joined (PJ.cons pe_str (PJ.cons (pe_fmt (pv 3)) (PJ.cons pe_str (PJ.cons (pe_fmt (pv 2)) (PJ.cons pe_str (PJ.cons (pe_fmt (pv 2)) PJ.nil))))))) pa_nil)) (pa_cons pe_int pa_nil))) (pa_cons (pe_tup (pa_cons (pe_lst (pa_cons (pe_joined (PJ.cons pe_str (PJ.cons (pe_fmt (pv 3)) PJ.nil))) pa_nil)) (pa_cons pe_int pa_nil))) (pa_cons (pe_tup (pa_cons (pe_lst (pa_cons (pe_joined (PJ.cons pe_str (PJ.cons (pe_fmt (pv 3)) (PJ.cons pe_str (PJ.cons (pe_fmt (pv 2)) (PJ.cons pe_str (PJ.cons (pe_fmt (pv 0)) (PJ.cons pe_str (PJ.cons (pe_fmt (pv 1)) PJ.nil))))))))) (pa_cons pe_str pa_nil))) (pa_cons pe_non pa_nil))) pa_nil)))))) dl),?_⟩
 rintro σ H1 ⟨o7,o8,o9,o10,rfl,E1,hk0,h20,h30,hr0⟩
 obtain ⟨lf,rfl,ts0,hf,F⟩:=id (hr0 _ rfl)
 have E:Ev TS [] H1 H1:=Ev.refl _ _
 refine ⟨InvPr TS Hs wa wb wx wf wg wp wq (some [[("define" : Str),wf,wx],[("take" : Str),wp,("spot" : Str),wx],[("end" : Str)]]) (some [[("define" : Str),wf,wx,wa],[("take" : Str),wa,("order" : Str),wa,("down" : Str)],[("move" : Str),wx,wa],[("end" : Str)]]) (some [[("define" : Str),wf,wx,wa],[("take" : Str),wa,("order" : Str),wa,("down" : Str)],[("move" : Str),wx,wa],[("end" : Str)],[("define" : Str),wg,wp],[("call" : Str),wf,wp,wp],[("end" : Str)],[("define" : Str),wq,wg]]) (some (pr04_15 wa wb wx wf wg wp wq)),?_,hl⟩
 walk_at "rd"
 refine ⟨by decide +kernel,js_c (n:=20) (y:=wf) (by decide +kernel) (by omega) (by decide) (ht_v rfl (by omega)) fun q1b1=>js_c (y:=" ") q1b1 (by decide +kernel) (by decide) ht_c fun q1b2=>js_c (y:=wx) q1b2 (by omega) (by decide) (ht_v rfl (by omega)) fun q1b3=>js_c (y:=" ") q1b3 (by decide +kernel) (by decide) ht_c fun q1b4=>js_c (y:=wx) q1b4 (by omega) (by decide) (ht_v rfl (by omega)) fun q1b5=>?_⟩
 walk_at "rd"
 refine ⟨by show 1≤sizeLine; decide +kernel,fun l1 n1=>?_⟩
 generalize hX:upd _ l1 _=G1
 obtain ⟨e1,g1⟩:=new_facts (TS:=TS) hX n1
 clear hX
 walk_at "rs"
 replace E:=E.trans e1 trivial
 clear n1
 replace g1:G1 l1=some (.lst (([[("define" : Str),wf,wx,wx]].map lineS).map V.str)):=by rw [g1,fs4_1 wf wx wx]; simp only [List.map_cons,List.map_nil,ls1]
 walk_at "rd"
 refine ⟨by show 2≤sizeLine; decide +kernel,fun t2 n2=>?_⟩
 generalize hX:upd _ t2 _=G2
 obtain ⟨e2,g2⟩:=new_facts (TS:=TS) hX n2
 clear hX
 walk_at "rs"
 replace E:=E.trans e2 trivial
 clear n2
 have rs:RowsL G2 _ _:=.cons (r:=([[("define" : Str),wf,wx,wx]],some 1)) g2 (ev_lst e2 g1 trivial) .nil
 clear g2
 walk_at "rd"
 refine ⟨by decide +kernel,js_c (n:=20) (y:=wf) (by decide +kernel) (by omega) (by decide) (ht_v rfl (by omega)) fun q2c1=>?_⟩
 walk_at "rd"
 refine ⟨by show 1≤sizeLine; decide +kernel,fun l3 n3=>?_⟩
 generalize hX:upd _ l3 _=G3
 obtain ⟨e3,g3⟩:=new_facts (TS:=TS) hX n3
 clear hX
 walk_at "rs"
 replace E:=E.trans e3 trivial
 replace rs:=rs.ev e3
 clear n3
 replace g3:G3 l3=some (.lst (([[("define" : Str),wf]].map lineS).map V.str)):=by rw [g3,fs4_2 wf]; simp only [List.map_cons,List.map_nil,ls1]
 walk_at "rd"
 refine ⟨by show 2≤sizeLine; decide +kernel,fun t4 n4=>?_⟩
 generalize hX:upd _ t4 _=G4
 obtain ⟨e4,g4⟩:=new_facts (TS:=TS) hX n4
 clear hX
 walk_at "rs"
 replace E:=E.trans e4 trivial
 replace rs:=rs.ev e4
 clear n4
 replace rs:=RowsL.app rs (.cons (r:=([[("define" : Str),wf]],some 1)) g4 (ev_lst e4 g3 trivial) .nil)
 clear g4
 walk_at "rd"
 refine ⟨by decide +kernel,js_c (n:=20) (y:=wf) (by decide +kernel) (by omega) (by decide) (ht_v rfl (by omega)) fun q3d1=>js_c (y:=" ") q3d1 (by decide +kernel) (by decide) ht_c fun q3d2=>js_c (y:=wx) q3d2 (by omega) (by decide) (ht_v rfl (by omega)) fun q3d3=>js_c (y:=" ") q3d3 (by decide +kernel) (by decide) ht_c fun q3d4=>js_c (y:=wa) q3d4 (by omega) (by decide) (ht_v rfl (by omega)) fun q3d5=>js_c (y:=" ") q3d5 (by decide +kernel) (by decide) ht_c fun q3d6=>js_c (y:=wb) q3d6 (by omega) (by decide) (ht_v rfl (by omega)) fun q3d7=>?_⟩
 walk_at "rd"
 refine ⟨by show 2≤sizeLine; decide +kernel,fun l5 n5=>?_⟩
 generalize hX:upd _ l5 _=G5
 obtain ⟨e5,g5⟩:=new_facts (TS:=TS) hX n5
 clear hX
 walk_at "rs"
 replace E:=E.trans e5 trivial
 replace rs:=rs.ev e5
 clear n5
 replace g5:G5 l5=some (.lst (([[("define" : Str),wf,wx,wa,wb],[("end" : Str)]].map lineS).map V.str)):=by rw [g5,fs4_3 wf wx wa wb]; simp only [List.map_cons,List.map_nil,ls1]
 walk_at "rd"
 refine ⟨by show 2≤sizeLine; decide +kernel,fun t6 n6=>?_⟩
 generalize hX:upd _ t6 _=G6
 obtain ⟨e6,g6⟩:=new_facts (TS:=TS) hX n6
 clear hX
 walk_at "rs"
 replace E:=E.trans e6 trivial
 replace rs:=rs.ev e6
 clear n6
 replace rs:=RowsL.app rs (.cons (r:=([[("define" : Str),wf,wx,wa,wb],[("end" : Str)]],none)) g6 (ev_lst e6 g5 trivial) .nil)
 clear g6
 walk_at "rd"
 refine ⟨by show 3≤sizeLine; decide +kernel,fun o7 n7=>?_⟩
 generalize hX:upd _ o7 _=G7
 obtain ⟨e7,g7⟩:=new_facts (TS:=TS) hX n7
 clear hX
 walk_at "rs"
 replace E:=E.trans e7 trivial
 replace rs:=rs.ev e7
 clear n7
 have Fl:=F.len
 refine a_cat (TS:=TS) (ev_lst E hf trivial) g7 (by simp only [List.length_map,Fl]; exact le_line (Nat.le_of_ble_eq_true rfl)) fun lq Hq nq eq gq=>?_
 have rq:RowsQ Hq (.ref lq) (pr04_15 wa wb wx wf wg wp wq):=RowsQ.mk (gq.trans (by rw [show [V.ref t2,V.ref t4,V.ref t6]=[t2,t4,t6].map V.ref from rfl,← List.map_append]; first | done | rfl)) (((F.ev E).app rs).ev eq)
 replace E:=E.trans eq trivial
 walk_at "rd"
 exact ⟨_,_,_,_,rfl,E1.trans E trivial,(fun T e=>(hk0 T e).ev E),(fun T e=>(h20 T e).ev E),(fun T e=>(h30 T e).ev E),(fun R e=>by cases e; exact ⟨lq,rfl,rq.get⟩)⟩
theorem pr_s14 (TS:List (Addr × Str)) {f:Addr} (cdv:Value) (A:Around) (outer:List Env) (s:Shared) (Hs H:Hp) (Q:VK) (E0:XK) (wa wb wx wf wg wp wq:Str) (W4:Ws04 [wa,wb,wx,wf,wg,wp,wq]) (kk:∀ (r:Addr) (H':Hp),Ev TS [] Hs H'→RowsQ H' (.ref r) (pr04_16 wa wb wx wf wg wp wq)→Q (.ref r) H') (hr:Room 0 (A.deeper (envOfC "_law_procedures" (defScope s_procedures) s.heap.objs.size f cdv))):∃ t,PSs (cxOf CX0 P w K mg base ["_law_a","_law_b","_law_x","_law_f","_law_g","_law_p","_law_q","_law_known","_law_found","_law_two","_law_three"] "_law_procedures" (defScope s_procedures) f cdv A outer s H E0).nox ((defBody s_procedures).drop 14) t∧∀ σ H',InvPr TS Hs wa wb wx wf wg wp wq (some [[("define" : Str),wf,wx],[("take" : Str),wp,("spot" : Str),wx],[("end" : Str)]]) (some [[("define" : Str),wf,wx,wa],[("take" : Str),wa,("order" : Str),wa,("down" : Str)],[("move" : Str),wx,wa],[("end" : Str)]]) (some [[("define" : Str),wf,wx,wa],[("take" : Str),wa,("order" : Str),wa,("down" : Str)],[("move" : Str),wx,wa],[("end" : Str)],[("define" : Str),wg,wp],[("call" : Str),wf,wp,wp],[("end" : Str)],[("define" : Str),wq,wg]]) (some (pr04_12 wa wb wx wf wg wp wq)) σ H'→t { nx:=fun _ H'=>Q .non H',rt:=Q } σ H':=by
 have l_wa:=W4.len (z:=wa) (by simp)
 have l_wb:=W4.len (z:=wb) (by simp)
 have l_wx:=W4.len (z:=wx) (by simp)
 have l_wf:=W4.len (z:=wf) (by simp)
 have l_wg:=W4.len (z:=wg) (by simp)
 have l_wp:=W4.len (z:=wp) (by simp)
 have l_wq:=W4.len (z:=wq) (by simp)
 obtain ⟨tl,dl,hl⟩:=pr_s15 TS (f:=f) (P:=P) (w:=w) (K:=K) (mg:=mg) (base:=base) cdv A outer s Hs H Q E0 wa wb wx wf wg wp wq W4 kk hr
 refine ⟨_,(C8.pss_cut (ps_set (i:=8) sc_procedures.nd rfl (Or.inl rfl) (pe_op op_cat (pv 8) (pe_lst (pa_cons (pe_tup (pa_cons (pe_op op_cat (pv 10) (pe_lst (pa_cons (pe_joined (PJ.cons pe_str (PJ.cons (pe_fmt (pv 4)) (PJ.cons pe_str (PJ.cons (pe_fmt (pv 4)) PJ.nil))))) (pa_cons pe_str (pa_cons (pe_joined (PJ.cons pe_str (PJ.cons (pe_fmt (pv 6)) (PJ.cons pe_str (PJ.cons (pe_fmt (pv 0)) PJ.nil))))) pa_nil))))) (pa_cons pe_non pa_nil))) pa_nil)))) dl),?_⟩
 rintro σ H1 ⟨o7,o8,o9,o10,rfl,E1,hk0,h20,h30,hr0⟩
 obtain ⟨lh3,rfl,h3⟩:=id (h30 _ rfl)
 obtain ⟨lf,rfl,ts0,hf,F⟩:=id (hr0 _ rfl)
 have E:Ev TS [] H1 H1:=Ev.refl _ _
 refine ⟨InvPr TS Hs wa wb wx wf wg wp wq (some [[("define" : Str),wf,wx],[("take" : Str),wp,("spot" : Str),wx],[("end" : Str)]]) (some [[("define" : Str),wf,wx,wa],[("take" : Str),wa,("order" : Str),wa,("down" : Str)],[("move" : Str),wx,wa],[("end" : Str)]]) (some [[("define" : Str),wf,wx,wa],[("take" : Str),wa,("order" : Str),wa,("down" : Str)],[("move" : Str),wx,wa],[("end" : Str)],[("define" : Str),wg,wp],[("call" : Str),wf,wp,wp],[("end" : Str)],[("define" : Str),wq,wg]]) (some (pr04_14 wa wb wx wf wg wp wq)),?_,hl⟩
 walk_at "rd"
 refine ⟨by decide +kernel,js_c (n:=20) (y:=wg) (by decide +kernel) (by omega) (by decide) (ht_v rfl (by omega)) fun q1b1=>js_c (y:=" ") q1b1 (by decide +kernel) (by decide) ht_c fun q1b2=>js_c (y:=wg) q1b2 (by omega) (by decide) (ht_v rfl (by omega)) fun q1b3=>?_⟩
 walk_at "rd"
 refine ⟨by decide +kernel,js_c (n:=20) (y:=wq) (by decide +kernel) (by omega) (by decide) (ht_v rfl (by omega)) fun q2c1=>js_c (y:=" ") q2c1 (by decide +kernel) (by decide) ht_c fun q2c2=>js_c (y:=wa) q2c2 (by omega) (by decide) (ht_v rfl (by omega)) fun q2c3=>?_⟩
 walk_at "rd"
 refine ⟨by show 3≤sizeLine; decide +kernel,fun l1 n1=>?_⟩
 generalize hX:upd _ l1 _=G1
 obtain ⟨e1,g1⟩:=new_facts (TS:=TS) hX n1
 clear hX
 walk_at "rs"
 replace E:=E.trans e1 trivial
 clear n1
 replace g1:G1 l1=some (.lst (([[("call" : Str),wg,wg],[("end" : Str)],[("call" : Str),wq,wa]].map lineS).map V.str)):=by rw [g1,fs4_4 wg wg,fs4_4 wq wa]; simp only [List.map_cons,List.map_nil,ls1]
 refine a_cat (TS:=TS) (ev_lst E h3 trivial) g1 (by simp only [List.length_map]; exact le_line (Nat.le_of_ble_eq_true rfl)) fun l2 G2 n2 e2 g2=>?_
 replace E:=E.trans e2 trivial
 clear n2
 replace g2:G2 l2=some (.lst (([[("define" : Str),wf,wx,wa],[("take" : Str),wa,("order" : Str),wa,("down" : Str)],[("move" : Str),wx,wa],[("end" : Str)],[("define" : Str),wg,wp],[("call" : Str),wf,wp,wp],[("end" : Str)],[("define" : Str),wq,wg],[("call" : Str),wg,wg],[("end" : Str)],[("call" : Str),wq,wa]].map lineS).map V.str)):=by rw [g2,← List.map_append,← List.map_append]; rfl
 walk_at "rd"
 refine ⟨by show 2≤sizeLine; decide +kernel,fun t3 n3=>?_⟩
 generalize hX:upd _ t3 _=G3
 obtain ⟨e3,g3⟩:=new_facts (TS:=TS) hX n3
 clear hX
 walk_at "rs"
 replace E:=E.trans e3 trivial
 clear n3
 have rs:RowsL G3 _ _:=.cons (r:=([[("define" : Str),wf,wx,wa],[("take" : Str),wa,("order" : Str),wa,("down" : Str)],[("move" : Str),wx,wa],[("end" : Str)],[("define" : Str),wg,wp],[("call" : Str),wf,wp,wp],[("end" : Str)],[("define" : Str),wq,wg],[("call" : Str),wg,wg],[("end" : Str)],[("call" : Str),wq,wa]],none)) g3 (ev_lst e3 g2 trivial) .nil
 clear g3
 walk_at "rd"
 refine ⟨by show 1≤sizeLine; decide +kernel,fun o4 n4=>?_⟩
 generalize hX:upd _ o4 _=G4
 obtain ⟨e4,g4⟩:=new_facts (TS:=TS) hX n4
 clear hX
 walk_at "rs"
 replace E:=E.trans e4 trivial
 replace rs:=rs.ev e4
 clear n4
 have Fl:=F.len
 refine a_cat (TS:=TS) (ev_lst E hf trivial) g4 (by simp only [List.length_map,Fl]; exact le_line (Nat.le_of_ble_eq_true rfl)) fun lq Hq nq eq gq=>?_
 have rq:RowsQ Hq (.ref lq) (pr04_14 wa wb wx wf wg wp wq):=RowsQ.mk (gq.trans (by rw [show [V.ref t3]=[t3].map V.ref from rfl,← List.map_append]; first | done | rfl)) (((F.ev E).app rs).ev eq)
 replace E:=E.trans eq trivial
 walk_at "rd"
 exact ⟨_,_,_,_,rfl,E1.trans E trivial,(fun T e=>(hk0 T e).ev E),(fun T e=>(h20 T e).ev E),(fun T e=>(h30 T e).ev E),(fun R e=>by cases e; exact ⟨lq,rfl,rq.get⟩)⟩
theorem pr_s13 (TS:List (Addr × Str)) {f:Addr} (cdv:Value) (A:Around) (outer:List Env) (s:Shared) (Hs H:Hp) (Q:VK) (E0:XK) (wa wb wx wf wg wp wq:Str) (W4:Ws04 [wa,wb,wx,wf,wg,wp,wq]) (kk:∀ (r:Addr) (H':Hp),Ev TS [] Hs H'→RowsQ H' (.ref r) (pr04_16 wa wb wx wf wg wp wq)→Q (.ref r) H') (hr:Room 0 (A.deeper (envOfC "_law_procedures" (defScope s_procedures) s.heap.objs.size f cdv))):∃ t,PSs (cxOf CX0 P w K mg base ["_law_a","_law_b","_law_x","_law_f","_law_g","_law_p","_law_q","_law_known","_law_found","_law_two","_law_three"] "_law_procedures" (defScope s_procedures) f cdv A outer s H E0).nox ((defBody s_procedures).drop 13) t∧∀ σ H',InvPr TS Hs wa wb wx wf wg wp wq (some [[("define" : Str),wf,wx],[("take" : Str),wp,("spot" : Str),wx],[("end" : Str)]]) (some [[("define" : Str),wf,wx,wa],[("take" : Str),wa,("order" : Str),wa,("down" : Str)],[("move" : Str),wx,wa],[("end" : Str)]]) none (some (pr04_12 wa wb wx wf wg wp wq)) σ H'→t { nx:=fun _ H'=>Q .non H',rt:=Q } σ H':=by
 have l_wa:=W4.len (z:=wa) (by simp)
 have l_wb:=W4.len (z:=wb) (by simp)
 have l_wx:=W4.len (z:=wx) (by simp)
 have l_wf:=W4.len (z:=wf) (by simp)
 have l_wg:=W4.len (z:=wg) (by simp)
 have l_wp:=W4.len (z:=wp) (by simp)
 have l_wq:=W4.len (z:=wq) (by simp)
 obtain ⟨tl,dl,hl⟩:=pr_s14 TS (f:=f) (P:=P) (w:=w) (K:=K) (mg:=mg) (base:=base) cdv A outer s Hs H Q E0 wa wb wx wf wg wp wq W4 kk hr
 refine ⟨_,(C8.pss_cut (ps_set (i:=10) sc_procedures.nd rfl (Or.inl rfl) (pe_op op_cat (pv 9) (pe_lst (pa_cons (pe_joined (PJ.cons pe_str (PJ.cons (pe_fmt (pv 4)) (PJ.cons pe_str (PJ.cons (pe_fmt (pv 5)) PJ.nil))))) (pa_cons (pe_joined (PJ.cons pe_str (PJ.cons (pe_fmt (pv 3)) (PJ.cons pe_str (PJ.cons (pe_fmt (pv 5)) (PJ.cons pe_str (PJ.cons (pe_fmt (pv 5)) PJ.nil))))))) (pa_cons pe_str (pa_cons (pe_joined (PJ.cons pe_str (PJ.cons (pe_fmt (pv 6)) (PJ.cons pe_str (PJ.cons (pe_fmt (pv 4)) PJ.nil))))) pa_nil))))))) dl),?_⟩
 rintro σ H1 ⟨o7,o8,o9,o10,rfl,E1,hk0,h20,h30,hr0⟩
 obtain ⟨lh2,rfl,h2⟩:=id (h20 _ rfl)
 have E:Ev TS [] H1 H1:=Ev.refl _ _
 refine ⟨InvPr TS Hs wa wb wx wf wg wp wq (some [[("define" : Str),wf,wx],[("take" : Str),wp,("spot" : Str),wx],[("end" : Str)]]) (some [[("define" : Str),wf,wx,wa],[("take" : Str),wa,("order" : Str),wa,("down" : Str)],[("move" : Str),wx,wa],[("end" : Str)]]) (some [[("define" : Str),wf,wx,wa],[("take" : Str),wa,("order" : Str),wa,("down" : Str)],[("move" : Str),wx,wa],[("end" : Str)],[("define" : Str),wg,wp],[("call" : Str),wf,wp,wp],[("end" : Str)],[("define" : Str),wq,wg]]) (some (pr04_12 wa wb wx wf wg wp wq)),?_,hl⟩
 walk_at "rd"
 refine ⟨by decide +kernel,js_c (n:=20) (y:=wg) (by decide +kernel) (by omega) (by decide) (ht_v rfl (by omega)) fun q1b1=>js_c (y:=" ") q1b1 (by decide +kernel) (by decide) ht_c fun q1b2=>js_c (y:=wp) q1b2 (by omega) (by decide) (ht_v rfl (by omega)) fun q1b3=>?_⟩
 walk_at "rd"
 refine ⟨by decide +kernel,js_c (n:=20) (y:=wf) (by decide +kernel) (by omega) (by decide) (ht_v rfl (by omega)) fun q2c1=>js_c (y:=" ") q2c1 (by decide +kernel) (by decide) ht_c fun q2c2=>js_c (y:=wp) q2c2 (by omega) (by decide) (ht_v rfl (by omega)) fun q2c3=>js_c (y:=" ") q2c3 (by decide +kernel) (by decide) ht_c fun q2c4=>js_c (y:=wp) q2c4 (by omega) (by decide) (ht_v rfl (by omega)) fun q2c5=>?_⟩
 walk_at "rd"
 refine ⟨by decide +kernel,js_c (n:=20) (y:=wq) (by decide +kernel) (by omega) (by decide) (ht_v rfl (by omega)) fun q3d1=>js_c (y:=" ") q3d1 (by decide +kernel) (by decide) ht_c fun q3d2=>js_c (y:=wg) q3d2 (by omega) (by decide) (ht_v rfl (by omega)) fun q3d3=>?_⟩
 walk_at "rd"
 refine ⟨by show 4≤sizeLine; decide +kernel,fun l1 n1=>?_⟩
 generalize hX:upd _ l1 _=G1
 obtain ⟨e1,g1⟩:=new_facts (TS:=TS) hX n1
 clear hX
 walk_at "rs"
 replace E:=E.trans e1 trivial
 clear n1
 replace g1:G1 l1=some (.lst (([[("define" : Str),wg,wp],[("call" : Str),wf,wp,wp],[("end" : Str)],[("define" : Str),wq,wg]].map lineS).map V.str)):=by rw [g1,fs4_5 wg wp,fs4_6 wf wp wp,fs4_5 wq wg]; simp only [List.map_cons,List.map_nil,ls1]
 refine a_cat (TS:=TS) (ev_lst E h2 trivial) g1 (by simp only [List.length_map]; exact le_line (Nat.le_of_ble_eq_true rfl)) fun l2 G2 n2 e2 g2=>?_
 replace E:=E.trans e2 trivial
 clear n2
 replace g2:G2 l2=some (.lst (([[("define" : Str),wf,wx,wa],[("take" : Str),wa,("order" : Str),wa,("down" : Str)],[("move" : Str),wx,wa],[("end" : Str)],[("define" : Str),wg,wp],[("call" : Str),wf,wp,wp],[("end" : Str)],[("define" : Str),wq,wg]].map lineS).map V.str)):=by rw [g2,← List.map_append,← List.map_append]; rfl
 walk_at "rd"
 exact ⟨_,_,_,_,rfl,E1.trans E trivial,(fun T e=>(hk0 T e).ev E),(fun T e=>(h20 T e).ev E),(fun T e=>by cases e; exact ⟨_,rfl,g2⟩),fun R e=>(hr0 R e).ev E⟩
theorem pr_s12 (TS:List (Addr × Str)) {f:Addr} (cdv:Value) (A:Around) (outer:List Env) (s:Shared) (Hs H:Hp) (Q:VK) (E0:XK) (wa wb wx wf wg wp wq:Str) (W4:Ws04 [wa,wb,wx,wf,wg,wp,wq]) (kk:∀ (r:Addr) (H':Hp),Ev TS [] Hs H'→RowsQ H' (.ref r) (pr04_16 wa wb wx wf wg wp wq)→Q (.ref r) H') (hr:Room 0 (A.deeper (envOfC "_law_procedures" (defScope s_procedures) s.heap.objs.size f cdv))):∃ t,PSs (cxOf CX0 P w K mg base ["_law_a","_law_b","_law_x","_law_f","_law_g","_law_p","_law_q","_law_known","_law_found","_law_two","_law_three"] "_law_procedures" (defScope s_procedures) f cdv A outer s H E0).nox ((defBody s_procedures).drop 12) t∧∀ σ H',InvPr TS Hs wa wb wx wf wg wp wq (some [[("define" : Str),wf,wx],[("take" : Str),wp,("spot" : Str),wx],[("end" : Str)]]) (some [[("define" : Str),wf,wx,wa],[("take" : Str),wa,("order" : Str),wa,("down" : Str)],[("move" : Str),wx,wa],[("end" : Str)]]) none (some (pr04_11 wa wb wx wf wg wp wq)) σ H'→t { nx:=fun _ H'=>Q .non H',rt:=Q } σ H':=by
 have l_wa:=W4.len (z:=wa) (by simp)
 have l_wb:=W4.len (z:=wb) (by simp)
 have l_wx:=W4.len (z:=wx) (by simp)
 have l_wf:=W4.len (z:=wf) (by simp)
 have l_wg:=W4.len (z:=wg) (by simp)
 have l_wp:=W4.len (z:=wp) (by simp)
 have l_wq:=W4.len (z:=wq) (by simp)
 obtain ⟨tl,dl,hl⟩:=pr_s13 TS (f:=f) (P:=P) (w:=w) (K:=K) (mg:=mg) (base:=base) cdv A outer s Hs H Q E0 wa wb wx wf wg wp wq W4 kk hr
 refine ⟨_,(C8.pss_cut (ps_set (i:=8) sc_procedures.nd rfl (Or.inl rfl) (pe_op op_cat (pv 8) (pe_lst (pa_cons (pe_tup (pa_cons (pe_lst (pa_cons pe_str (pa_cons (pe_joined (PJ.cons pe_str (PJ.cons (pe_fmt (pv 3)) (PJ.cons pe_str (PJ.cons (pe_fmt (pv 2)) PJ.nil))))) pa_nil))) (pa_cons pe_int pa_nil))) (pa_cons (pe_tup (pa_cons (pe_op op_cat (pv 7) (pe_lst (pa_cons pe_str pa_nil))) (pa_cons pe_int pa_nil))) (pa_cons (pe_tup (pa_cons (pe_op op_cat (pe_slice sl_list (pv 7) po_none (po_some pe_int)) (pe_lst (pa_cons pe_str (pa_cons pe_str pa_nil)))) (pa_cons pe_int pa_nil))) pa_nil)))))) dl),?_⟩
 rintro σ H1 ⟨o7,o8,o9,o10,rfl,E1,hk0,h20,h30,hr0⟩
 obtain ⟨lhk,rfl,hk⟩:=id (hk0 _ rfl)
 obtain ⟨lf,rfl,ts0,hf,F⟩:=id (hr0 _ rfl)
 have E:Ev TS [] H1 H1:=Ev.refl _ _
 refine ⟨InvPr TS Hs wa wb wx wf wg wp wq (some [[("define" : Str),wf,wx],[("take" : Str),wp,("spot" : Str),wx],[("end" : Str)]]) (some [[("define" : Str),wf,wx,wa],[("take" : Str),wa,("order" : Str),wa,("down" : Str)],[("move" : Str),wx,wa],[("end" : Str)]]) none (some (pr04_12 wa wb wx wf wg wp wq)),?_,hl⟩
 walk_at "rd"
 refine ⟨by decide +kernel,js_c (n:=20) (y:=wf) (by decide +kernel) (by omega) (by decide) (ht_v rfl (by omega)) fun q1b1=>js_c (y:=" ") q1b1 (by decide +kernel) (by decide) ht_c fun q1b2=>js_c (y:=wx) q1b2 (by omega) (by decide) (ht_v rfl (by omega)) fun q1b3=>?_⟩
 walk_at "rd"
 refine ⟨by show 2≤sizeLine; decide +kernel,fun l1 n1=>?_⟩
 generalize hX:upd _ l1 _=G1
 obtain ⟨e1,g1⟩:=new_facts (TS:=TS) hX n1
 clear hX
 walk_at "rs"
 replace E:=E.trans e1 trivial
 clear n1
 replace g1:G1 l1=some (.lst (([[("maybe" : Str)],[("define" : Str),wf,wx]].map lineS).map V.str)):=by rw [g1,fs4_5 wf wx]; simp only [List.map_cons,List.map_nil,ls1]
 walk_at "rd"
 refine ⟨by show 2≤sizeLine; decide +kernel,fun t2 n2=>?_⟩
 generalize hX:upd _ t2 _=G2
 obtain ⟨e2,g2⟩:=new_facts (TS:=TS) hX n2
 clear hX
 walk_at "rs"
 replace E:=E.trans e2 trivial
 clear n2
 have rs:RowsL G2 _ _:=.cons (r:=([[("maybe" : Str)],[("define" : Str),wf,wx]],some 2)) g2 (ev_lst e2 g1 trivial) .nil
 clear g2
 walk_at "rd"
 refine ⟨by show 1≤sizeLine; decide +kernel,fun l3 n3=>?_⟩
 generalize hX:upd _ l3 _=G3
 obtain ⟨e3,g3⟩:=new_facts (TS:=TS) hX n3
 clear hX
 walk_at "rs"
 replace E:=E.trans e3 trivial
 replace rs:=rs.ev e3
 clear n3
 replace g3:G3 l3=some (.lst (([[("end" : Str)]].map lineS).map V.str)):=by rw [g3]; simp only [List.map_cons,List.map_nil,ls1]
 refine a_cat (TS:=TS) (ev_lst E hk trivial) g3 (by simp only [List.length_map]; exact le_line (Nat.le_of_ble_eq_true rfl)) fun l4 G4 n4 e4 g4=>?_
 replace E:=E.trans e4 trivial
 replace rs:=rs.ev e4
 clear n4
 replace g4:G4 l4=some (.lst (([[("define" : Str),wf,wx],[("take" : Str),wp,("spot" : Str),wx],[("end" : Str)],[("end" : Str)]].map lineS).map V.str)):=by rw [g4,← List.map_append,← List.map_append]; rfl
 walk_at "rd"
 refine ⟨by show 2≤sizeLine; decide +kernel,fun t5 n5=>?_⟩
 generalize hX:upd _ t5 _=G5
 obtain ⟨e5,g5⟩:=new_facts (TS:=TS) hX n5
 clear hX
 walk_at "rs"
 replace E:=E.trans e5 trivial
 replace rs:=rs.ev e5
 clear n5
 replace rs:=RowsL.app rs (.cons (r:=([[("define" : Str),wf,wx],[("take" : Str),wp,("spot" : Str),wx],[("end" : Str)],[("end" : Str)]],some 4)) g5 (ev_lst e5 g4 trivial) .nil)
 clear g5
 walk_at "rd"
 refine a_slTo4 (TS:=TS) (ev_lst E hk trivial) fun l6 G6 n6 e6 g6=>?_
 replace E:=E.trans e6 trivial
 replace rs:=rs.ev e6
 clear n6
 replace g6:G6 l6=some (.lst (([[("define" : Str),wf,wx],[("take" : Str),wp,("spot" : Str),wx]].map lineS).map V.str)):=g6
 have g0:=E
 walk_at "rd"
 refine ⟨by show 2≤sizeLine; decide +kernel,fun l7 n7=>?_⟩
 generalize hX:upd _ l7 _=G7
 obtain ⟨e7,g7⟩:=new_facts (TS:=TS) hX n7
 clear hX
 walk_at "rs"
 replace E:=E.trans e7 trivial
 replace rs:=rs.ev e7
 clear n7
 replace g7:G7 l7=some (.lst (([[("end" : Str)],[("else" : Str)]].map lineS).map V.str)):=by rw [g7]; simp only [List.map_cons,List.map_nil,ls1]
 refine a_cat (TS:=TS) (ev_lst e7 g6 trivial) g7 (by simp only [List.length_map]; exact le_line (Nat.le_of_ble_eq_true rfl)) fun l8 G8 n8 e8 g8=>?_
 replace E:=E.trans e8 trivial
 replace rs:=rs.ev e8
 clear n8
 replace g8:G8 l8=some (.lst (([[("define" : Str),wf,wx],[("take" : Str),wp,("spot" : Str),wx],[("end" : Str)],[("else" : Str)]].map lineS).map V.str)):=by rw [g8,← List.map_append,← List.map_append]; rfl
 walk_at "rd"
 refine ⟨by show 2≤sizeLine; decide +kernel,fun t9 n9=>?_⟩
 generalize hX:upd _ t9 _=G9
 obtain ⟨e9,g9⟩:=new_facts (TS:=TS) hX n9
 clear hX
 walk_at "rs"
 replace E:=E.trans e9 trivial
 replace rs:=rs.ev e9
 clear n9
 replace rs:=RowsL.app rs (.cons (r:=([[("define" : Str),wf,wx],[("take" : Str),wp,("spot" : Str),wx],[("end" : Str)],[("else" : Str)]],some 4)) g9 (ev_lst e9 g8 trivial) .nil)
 clear g9
 walk_at "rd"
 refine ⟨by show 3≤sizeLine; decide +kernel,fun o10 n10=>?_⟩
 generalize hX:upd _ o10 _=G10
 obtain ⟨e10,g10⟩:=new_facts (TS:=TS) hX n10
 clear hX
 walk_at "rs"
 replace E:=E.trans e10 trivial
 replace rs:=rs.ev e10
 clear n10
 have Fl:=F.len
 refine a_cat (TS:=TS) (ev_lst E hf trivial) g10 (by simp only [List.length_map,Fl]; exact le_line (Nat.le_of_ble_eq_true rfl)) fun lq Hq nq eq gq=>?_
 have rq:RowsQ Hq (.ref lq) (pr04_12 wa wb wx wf wg wp wq):=RowsQ.mk (gq.trans (by rw [show [V.ref t2,V.ref t5,V.ref t9]=[t2,t5,t9].map V.ref from rfl,← List.map_append]; first | done | rfl)) (((F.ev E).app rs).ev eq)
 replace E:=E.trans eq trivial
 walk_at "rd"
 exact ⟨_,_,_,_,rfl,E1.trans E trivial,(fun T e=>(hk0 T e).ev E),(fun T e=>(h20 T e).ev E),(fun T e=>(h30 T e).ev E),(fun R e=>by cases e; exact ⟨lq,rfl,rq.get⟩)⟩
theorem pr_s11 (TS:List (Addr × Str)) {f:Addr} (cdv:Value) (A:Around) (outer:List Env) (s:Shared) (Hs H:Hp) (Q:VK) (E0:XK) (wa wb wx wf wg wp wq:Str) (W4:Ws04 [wa,wb,wx,wf,wg,wp,wq]) (kk:∀ (r:Addr) (H':Hp),Ev TS [] Hs H'→RowsQ H' (.ref r) (pr04_16 wa wb wx wf wg wp wq)→Q (.ref r) H') (hr:Room 0 (A.deeper (envOfC "_law_procedures" (defScope s_procedures) s.heap.objs.size f cdv))):∃ t,PSs (cxOf CX0 P w K mg base ["_law_a","_law_b","_law_x","_law_f","_law_g","_law_p","_law_q","_law_known","_law_found","_law_two","_law_three"] "_law_procedures" (defScope s_procedures) f cdv A outer s H E0).nox ((defBody s_procedures).drop 11) t∧∀ σ H',InvPr TS Hs wa wb wx wf wg wp wq (some [[("define" : Str),wf,wx],[("take" : Str),wp,("spot" : Str),wx],[("end" : Str)]]) (some [[("define" : Str),wf,wx,wa],[("take" : Str),wa,("order" : Str),wa,("down" : Str)],[("move" : Str),wx,wa],[("end" : Str)]]) none (some (pr04_10 wa wb wx wf wg wp wq)) σ H'→t { nx:=fun _ H'=>Q .non H',rt:=Q } σ H':=by
 have l_wa:=W4.len (z:=wa) (by simp)
 have l_wb:=W4.len (z:=wb) (by simp)
 have l_wx:=W4.len (z:=wx) (by simp)
 have l_wf:=W4.len (z:=wf) (by simp)
 have l_wg:=W4.len (z:=wg) (by simp)
 have l_wp:=W4.len (z:=wp) (by simp)
 have l_wq:=W4.len (z:=wq) (by simp)
 obtain ⟨tl,dl,hl⟩:=pr_s12 TS (f:=f) (P:=P) (w:=w) (K:=K) (mg:=mg) (base:=base) cdv A outer s Hs H Q E0 wa wb wx wf wg wp wq W4 kk hr
 refine ⟨_,(C8.pss_cut (ps_set (i:=8) sc_procedures.nd rfl (Or.inl rfl) (pe_op op_cat (pv 8) (pe_lst (pa_cons (pe_tup (pa_cons (pe_lst (pa_cons (pe_joined (PJ.cons pe_str (PJ.cons (pe_fmt (pv 3)) (PJ.cons pe_str (PJ.cons (pe_fmt (pv 2)) PJ.nil))))) (pa_cons (pe_joined (PJ.cons pe_str (PJ.cons (pe_fmt (pv 4)) (PJ.cons pe_str (PJ.cons (pe_fmt (pv 2)) PJ.nil))))) pa_nil))) (pa_cons pe_int pa_nil))) (pa_cons (pe_tup (pa_cons (pe_lst (pa_cons pe_str (pa_cons (pe_joined (PJ.cons pe_str (PJ.cons (pe_fmt (pv 3)) (PJ.cons pe_str (PJ.cons (pe_fmt (pv 2)) PJ.nil))))) pa_nil))) (pa_cons pe_int pa_nil))) pa_nil))))) dl),?_⟩
 rintro σ H1 ⟨o7,o8,o9,o10,rfl,E1,hk0,h20,h30,hr0⟩
 obtain ⟨lf,rfl,ts0,hf,F⟩:=id (hr0 _ rfl)
 have E:Ev TS [] H1 H1:=Ev.refl _ _
 refine ⟨InvPr TS Hs wa wb wx wf wg wp wq (some [[("define" : Str),wf,wx],[("take" : Str),wp,("spot" : Str),wx],[("end" : Str)]]) (some [[("define" : Str),wf,wx,wa],[("take" : Str),wa,("order" : Str),wa,("down" : Str)],[("move" : Str),wx,wa],[("end" : Str)]]) none (some (pr04_11 wa wb wx wf wg wp wq)),?_,hl⟩
 walk_at "rd"
 refine ⟨by decide +kernel,js_c (n:=20) (y:=wf) (by decide +kernel) (by omega) (by decide) (ht_v rfl (by omega)) fun q1b1=>js_c (y:=" ") q1b1 (by decide +kernel) (by decide) ht_c fun q1b2=>js_c (y:=wx) q1b2 (by omega) (by decide) (ht_v rfl (by omega)) fun q1b3=>?_⟩
 walk_at "rd"
 refine ⟨by decide +kernel,js_c (n:=20) (y:=wg) (by decide +kernel) (by omega) (by decide) (ht_v rfl (by omega)) fun q2c1=>js_c (y:=" ") q2c1 (by decide +kernel) (by decide) ht_c fun q2c2=>js_c (y:=wx) q2c2 (by omega) (by decide) (ht_v rfl (by omega)) fun q2c3=>?_⟩
 walk_at "rd"
 refine ⟨by show 2≤sizeLine; decide +kernel,fun l1 n1=>?_⟩
 generalize hX:upd _ l1 _=G1
 obtain ⟨e1,g1⟩:=new_facts (TS:=TS) hX n1
 clear hX
 walk_at "rs"
 replace E:=E.trans e1 trivial
 clear n1
 replace g1:G1 l1=some (.lst (([[("define" : Str),wf,wx],[("define" : Str),wg,wx]].map lineS).map V.str)):=by rw [g1,fs4_5 wf wx,fs4_5 wg wx]; simp only [List.map_cons,List.map_nil,ls1]
 walk_at "rd"
 refine ⟨by show 2≤sizeLine; decide +kernel,fun t2 n2=>?_⟩
 generalize hX:upd _ t2 _=G2
 obtain ⟨e2,g2⟩:=new_facts (TS:=TS) hX n2
 clear hX
 walk_at "rs"
 replace E:=E.trans e2 trivial
 clear n2
 have rs:RowsL G2 _ _:=.cons (r:=([[("define" : Str),wf,wx],[("define" : Str),wg,wx]],some 2)) g2 (ev_lst e2 g1 trivial) .nil
 clear g2
 walk_at "rd"
 refine ⟨by decide +kernel,js_c (n:=20) (y:=wf) (by decide +kernel) (by omega) (by decide) (ht_v rfl (by omega)) fun q3d1=>js_c (y:=" ") q3d1 (by decide +kernel) (by decide) ht_c fun q3d2=>js_c (y:=wx) q3d2 (by omega) (by decide) (ht_v rfl (by omega)) fun q3d3=>?_⟩
 walk_at "rd"
 refine ⟨by show 2≤sizeLine; decide +kernel,fun l3 n3=>?_⟩
 generalize hX:upd _ l3 _=G3
 obtain ⟨e3,g3⟩:=new_facts (TS:=TS) hX n3
 clear hX
 walk_at "rs"
 replace E:=E.trans e3 trivial
 replace rs:=rs.ev e3
 clear n3
 replace g3:G3 l3=some (.lst (([[("check" : Str)],[("define" : Str),wf,wx]].map lineS).map V.str)):=by rw [g3,fs4_5 wf wx]; simp only [List.map_cons,List.map_nil,ls1]
 walk_at "rd"
 refine ⟨by show 2≤sizeLine; decide +kernel,fun t4 n4=>?_⟩
 generalize hX:upd _ t4 _=G4
 obtain ⟨e4,g4⟩:=new_facts (TS:=TS) hX n4
 clear hX
 walk_at "rs"
 replace E:=E.trans e4 trivial
 replace rs:=rs.ev e4
 clear n4
 replace rs:=RowsL.app rs (.cons (r:=([[("check" : Str)],[("define" : Str),wf,wx]],some 2)) g4 (ev_lst e4 g3 trivial) .nil)
 clear g4
 walk_at "rd"
 refine ⟨by show 2≤sizeLine; decide +kernel,fun o5 n5=>?_⟩
 generalize hX:upd _ o5 _=G5
 obtain ⟨e5,g5⟩:=new_facts (TS:=TS) hX n5
 clear hX
 walk_at "rs"
 replace E:=E.trans e5 trivial
 replace rs:=rs.ev e5
 clear n5
 have Fl:=F.len
 refine a_cat (TS:=TS) (ev_lst E hf trivial) g5 (by simp only [List.length_map,Fl]; exact le_line (Nat.le_of_ble_eq_true rfl)) fun lq Hq nq eq gq=>?_
 have rq:RowsQ Hq (.ref lq) (pr04_11 wa wb wx wf wg wp wq):=RowsQ.mk (gq.trans (by rw [show [V.ref t2,V.ref t4]=[t2,t4].map V.ref from rfl,← List.map_append]; first | done | rfl)) (((F.ev E).app rs).ev eq)
 replace E:=E.trans eq trivial
 walk_at "rd"
 exact ⟨_,_,_,_,rfl,E1.trans E trivial,(fun T e=>(hk0 T e).ev E),(fun T e=>(h20 T e).ev E),(fun T e=>(h30 T e).ev E),(fun R e=>by cases e; exact ⟨lq,rfl,rq.get⟩)⟩
theorem pr_s10 (TS:List (Addr × Str)) {f:Addr} (cdv:Value) (A:Around) (outer:List Env) (s:Shared) (Hs H:Hp) (Q:VK) (E0:XK) (wa wb wx wf wg wp wq:Str) (W4:Ws04 [wa,wb,wx,wf,wg,wp,wq]) (kk:∀ (r:Addr) (H':Hp),Ev TS [] Hs H'→RowsQ H' (.ref r) (pr04_16 wa wb wx wf wg wp wq)→Q (.ref r) H') (hr:Room 0 (A.deeper (envOfC "_law_procedures" (defScope s_procedures) s.heap.objs.size f cdv))):∃ t,PSs (cxOf CX0 P w K mg base ["_law_a","_law_b","_law_x","_law_f","_law_g","_law_p","_law_q","_law_known","_law_found","_law_two","_law_three"] "_law_procedures" (defScope s_procedures) f cdv A outer s H E0).nox ((defBody s_procedures).drop 10) t∧∀ σ H',InvPr TS Hs wa wb wx wf wg wp wq (some [[("define" : Str),wf,wx],[("take" : Str),wp,("spot" : Str),wx],[("end" : Str)]]) (some [[("define" : Str),wf,wx,wa],[("take" : Str),wa,("order" : Str),wa,("down" : Str)],[("move" : Str),wx,wa],[("end" : Str)]]) none (some (pr04_9 wa wb wx wf wg wp wq)) σ H'→t { nx:=fun _ H'=>Q .non H',rt:=Q } σ H':=by
 have l_wa:=W4.len (z:=wa) (by simp)
 have l_wb:=W4.len (z:=wb) (by simp)
 have l_wx:=W4.len (z:=wx) (by simp)
 have l_wf:=W4.len (z:=wf) (by simp)
 have l_wg:=W4.len (z:=wg) (by simp)
 have l_wp:=W4.len (z:=wp) (by simp)
 have l_wq:=W4.len (z:=wq) (by simp)
 obtain ⟨tl,dl,hl⟩:=pr_s11 TS (f:=f) (P:=P) (w:=w) (K:=K) (mg:=mg) (base:=base) cdv A outer s Hs H Q E0 wa wb wx wf wg wp wq W4 kk hr
 refine ⟨_,(C8.pss_cut (ps_set (i:=8) sc_procedures.nd rfl (Or.inl rfl) (pe_op op_cat (pv 8) (pe_lst (pa_cons (pe_tup (pa_cons (pe_op op_cat (pv 9) (pe_lst (pa_cons (pe_joined (PJ.cons pe_str (PJ.cons (pe_fmt (pv 4)) (PJ.cons pe_str (PJ.cons (pe_fmt (pv 5)) PJ.nil))))) (pa_cons (pe_joined (PJ.cons pe_str (PJ.cons (pe_fmt (pv 3)) (PJ.cons pe_str (PJ.cons (pe_fmt (pv 5)) (PJ.cons pe_str (PJ.cons (pe_fmt (pv 5)) PJ.nil))))))) (pa_cons pe_str (pa_cons (pe_joined (PJ.cons pe_str (PJ.cons (pe_fmt (pv 4)) (PJ.cons pe_str (PJ.cons (pe_fmt (pv 1)) PJ.nil))))) pa_nil)))))) (pa_cons pe_non pa_nil))) pa_nil)))) dl),?_⟩
 rintro σ H1 ⟨o7,o8,o9,o10,rfl,E1,hk0,h20,h30,hr0⟩
 obtain ⟨lh2,rfl,h2⟩:=id (h20 _ rfl)
 obtain ⟨lf,rfl,ts0,hf,F⟩:=id (hr0 _ rfl)
 have E:Ev TS [] H1 H1:=Ev.refl _ _
 refine ⟨InvPr TS Hs wa wb wx wf wg wp wq (some [[("define" : Str),wf,wx],[("take" : Str),wp,("spot" : Str),wx],[("end" : Str)]]) (some [[("define" : Str),wf,wx,wa],[("take" : Str),wa,("order" : Str),wa,("down" : Str)],[("move" : Str),wx,wa],[("end" : Str)]]) none (some (pr04_10 wa wb wx wf wg wp wq)),?_,hl⟩
 walk_at "rd"
 refine ⟨by decide +kernel,js_c (n:=20) (y:=wg) (by decide +kernel) (by omega) (by decide) (ht_v rfl (by omega)) fun q1b1=>js_c (y:=" ") q1b1 (by decide +kernel) (by decide) ht_c fun q1b2=>js_c (y:=wp) q1b2 (by omega) (by decide) (ht_v rfl (by omega)) fun q1b3=>?_⟩
 walk_at "rd"
 refine ⟨by decide +kernel,js_c (n:=20) (y:=wf) (by decide +kernel) (by omega) (by decide) (ht_v rfl (by omega)) fun q2c1=>js_c (y:=" ") q2c1 (by decide +kernel) (by decide) ht_c fun q2c2=>js_c (y:=wp) q2c2 (by omega) (by decide) (ht_v rfl (by omega)) fun q2c3=>js_c (y:=" ") q2c3 (by decide +kernel) (by decide) ht_c fun q2c4=>js_c (y:=wp) q2c4 (by omega) (by decide) (ht_v rfl (by omega)) fun q2c5=>?_⟩
 walk_at "rd"
 refine ⟨by decide +kernel,js_c (n:=20) (y:=wg) (by decide +kernel) (by omega) (by decide) (ht_v rfl (by omega)) fun q3d1=>js_c (y:=" ") q3d1 (by decide +kernel) (by decide) ht_c fun q3d2=>js_c (y:=wb) q3d2 (by omega) (by decide) (ht_v rfl (by omega)) fun q3d3=>?_⟩
 walk_at "rd"
 refine ⟨by show 4≤sizeLine; decide +kernel,fun l1 n1=>?_⟩
 generalize hX:upd _ l1 _=G1
 obtain ⟨e1,g1⟩:=new_facts (TS:=TS) hX n1
 clear hX
 walk_at "rs"
 replace E:=E.trans e1 trivial
 clear n1
 replace g1:G1 l1=some (.lst (([[("define" : Str),wg,wp],[("call" : Str),wf,wp,wp],[("end" : Str)],[("call" : Str),wg,wb]].map lineS).map V.str)):=by rw [g1,fs4_5 wg wp,fs4_6 wf wp wp,fs4_4 wg wb]; simp only [List.map_cons,List.map_nil,ls1]
 refine a_cat (TS:=TS) (ev_lst E h2 trivial) g1 (by simp only [List.length_map]; exact le_line (Nat.le_of_ble_eq_true rfl)) fun l2 G2 n2 e2 g2=>?_
 replace E:=E.trans e2 trivial
 clear n2
 replace g2:G2 l2=some (.lst (([[("define" : Str),wf,wx,wa],[("take" : Str),wa,("order" : Str),wa,("down" : Str)],[("move" : Str),wx,wa],[("end" : Str)],[("define" : Str),wg,wp],[("call" : Str),wf,wp,wp],[("end" : Str)],[("call" : Str),wg,wb]].map lineS).map V.str)):=by rw [g2,← List.map_append,← List.map_append]; rfl
 walk_at "rd"
 refine ⟨by show 2≤sizeLine; decide +kernel,fun t3 n3=>?_⟩
 generalize hX:upd _ t3 _=G3
 obtain ⟨e3,g3⟩:=new_facts (TS:=TS) hX n3
 clear hX
 walk_at "rs"
 replace E:=E.trans e3 trivial
 clear n3
 have rs:RowsL G3 _ _:=.cons (r:=([[("define" : Str),wf,wx,wa],[("take" : Str),wa,("order" : Str),wa,("down" : Str)],[("move" : Str),wx,wa],[("end" : Str)],[("define" : Str),wg,wp],[("call" : Str),wf,wp,wp],[("end" : Str)],[("call" : Str),wg,wb]],none)) g3 (ev_lst e3 g2 trivial) .nil
 clear g3
 walk_at "rd"
 refine ⟨by show 1≤sizeLine; decide +kernel,fun o4 n4=>?_⟩
 generalize hX:upd _ o4 _=G4
 obtain ⟨e4,g4⟩:=new_facts (TS:=TS) hX n4
 clear hX
 walk_at "rs"
 replace E:=E.trans e4 trivial
 replace rs:=rs.ev e4
 clear n4
 have Fl:=F.len
 refine a_cat (TS:=TS) (ev_lst E hf trivial) g4 (by simp only [List.length_map,Fl]; exact le_line (Nat.le_of_ble_eq_true rfl)) fun lq Hq nq eq gq=>?_
 have rq:RowsQ Hq (.ref lq) (pr04_10 wa wb wx wf wg wp wq):=RowsQ.mk (gq.trans (by rw [show [V.ref t3]=[t3].map V.ref from rfl,← List.map_append]; first | done | rfl)) (((F.ev E).app rs).ev eq)
 replace E:=E.trans eq trivial
 walk_at "rd"
 exact ⟨_,_,_,_,rfl,E1.trans E trivial,(fun T e=>(hk0 T e).ev E),(fun T e=>(h20 T e).ev E),(fun T e=>(h30 T e).ev E),(fun R e=>by cases e; exact ⟨lq,rfl,rq.get⟩)⟩
theorem pr_s9 (TS:List (Addr × Str)) {f:Addr} (cdv:Value) (A:Around) (outer:List Env) (s:Shared) (Hs H:Hp) (Q:VK) (E0:XK) (wa wb wx wf wg wp wq:Str) (W4:Ws04 [wa,wb,wx,wf,wg,wp,wq]) (kk:∀ (r:Addr) (H':Hp),Ev TS [] Hs H'→RowsQ H' (.ref r) (pr04_16 wa wb wx wf wg wp wq)→Q (.ref r) H') (hr:Room 0 (A.deeper (envOfC "_law_procedures" (defScope s_procedures) s.heap.objs.size f cdv))):∃ t,PSs (cxOf CX0 P w K mg base ["_law_a","_law_b","_law_x","_law_f","_law_g","_law_p","_law_q","_law_known","_law_found","_law_two","_law_three"] "_law_procedures" (defScope s_procedures) f cdv A outer s H E0).nox ((defBody s_procedures).drop 9) t∧∀ σ H',InvPr TS Hs wa wb wx wf wg wp wq (some [[("define" : Str),wf,wx],[("take" : Str),wp,("spot" : Str),wx],[("end" : Str)]]) (some [[("define" : Str),wf,wx,wa],[("take" : Str),wa,("order" : Str),wa,("down" : Str)],[("move" : Str),wx,wa],[("end" : Str)]]) none (some (pr04_8 wa wb wx wf wg wp wq)) σ H'→t { nx:=fun _ H'=>Q .non H',rt:=Q } σ H':=by
 have l_wa:=W4.len (z:=wa) (by simp)
 have l_wb:=W4.len (z:=wb) (by simp)
 have l_wx:=W4.len (z:=wx) (by simp)
 have l_wf:=W4.len (z:=wf) (by simp)
 have l_wg:=W4.len (z:=wg) (by simp)
 have l_wp:=W4.len (z:=wp) (by simp)
 have l_wq:=W4.len (z:=wq) (by simp)
 obtain ⟨tl,dl,hl⟩:=pr_s10 TS (f:=f) (P:=P) (w:=w) (K:=K) (mg:=mg) (base:=base) cdv A outer s Hs H Q E0 wa wb wx wf wg wp wq W4 kk hr
 refine ⟨_,(C8.pss_cut (ps_set (i:=8) sc_procedures.nd rfl (Or.inl rfl) (pe_op op_cat (pv 8) (pe_lst (pa_cons (pe_tup (pa_cons (pe_op op_cat (pv 9) (pe_lst (pa_cons (pe_joined (PJ.cons pe_str (PJ.cons (pe_fmt (pv 3)) (PJ.cons pe_str (PJ.cons (pe_fmt (pv 2)) (PJ.cons pe_str (PJ.cons (pe_fmt (pv 0)) PJ.nil))))))) pa_nil))) (pa_cons pe_int pa_nil))) pa_nil)))) dl),?_⟩
 rintro σ H1 ⟨o7,o8,o9,o10,rfl,E1,hk0,h20,h30,hr0⟩
 obtain ⟨lh2,rfl,h2⟩:=id (h20 _ rfl)
 obtain ⟨lf,rfl,ts0,hf,F⟩:=id (hr0 _ rfl)
 have E:Ev TS [] H1 H1:=Ev.refl _ _
 refine ⟨InvPr TS Hs wa wb wx wf wg wp wq (some [[("define" : Str),wf,wx],[("take" : Str),wp,("spot" : Str),wx],[("end" : Str)]]) (some [[("define" : Str),wf,wx,wa],[("take" : Str),wa,("order" : Str),wa,("down" : Str)],[("move" : Str),wx,wa],[("end" : Str)]]) none (some (pr04_9 wa wb wx wf wg wp wq)),?_,hl⟩
 walk_at "rd"
 refine ⟨by decide +kernel,js_c (n:=20) (y:=wf) (by decide +kernel) (by omega) (by decide) (ht_v rfl (by omega)) fun q1b1=>js_c (y:=" ") q1b1 (by decide +kernel) (by decide) ht_c fun q1b2=>js_c (y:=wx) q1b2 (by omega) (by decide) (ht_v rfl (by omega)) fun q1b3=>js_c (y:=" ") q1b3 (by decide +kernel) (by decide) ht_c fun q1b4=>js_c (y:=wa) q1b4 (by omega) (by decide) (ht_v rfl (by omega)) fun q1b5=>?_⟩
 walk_at "rd"
 refine ⟨by show 1≤sizeLine; decide +kernel,fun l1 n1=>?_⟩
 generalize hX:upd _ l1 _=G1
 obtain ⟨e1,g1⟩:=new_facts (TS:=TS) hX n1
 clear hX
 walk_at "rs"
 replace E:=E.trans e1 trivial
 clear n1
 replace g1:G1 l1=some (.lst (([[("call" : Str),wf,wx,wa]].map lineS).map V.str)):=by rw [g1,fs4_6 wf wx wa]; simp only [List.map_cons,List.map_nil,ls1]
 refine a_cat (TS:=TS) (ev_lst E h2 trivial) g1 (by simp only [List.length_map]; exact le_line (Nat.le_of_ble_eq_true rfl)) fun l2 G2 n2 e2 g2=>?_
 replace E:=E.trans e2 trivial
 clear n2
 replace g2:G2 l2=some (.lst (([[("define" : Str),wf,wx,wa],[("take" : Str),wa,("order" : Str),wa,("down" : Str)],[("move" : Str),wx,wa],[("end" : Str)],[("call" : Str),wf,wx,wa]].map lineS).map V.str)):=by rw [g2,← List.map_append,← List.map_append]; rfl
 walk_at "rd"
 refine ⟨by show 2≤sizeLine; decide +kernel,fun t3 n3=>?_⟩
 generalize hX:upd _ t3 _=G3
 obtain ⟨e3,g3⟩:=new_facts (TS:=TS) hX n3
 clear hX
 walk_at "rs"
 replace E:=E.trans e3 trivial
 clear n3
 have rs:RowsL G3 _ _:=.cons (r:=([[("define" : Str),wf,wx,wa],[("take" : Str),wa,("order" : Str),wa,("down" : Str)],[("move" : Str),wx,wa],[("end" : Str)],[("call" : Str),wf,wx,wa]],some 5)) g3 (ev_lst e3 g2 trivial) .nil
 clear g3
 walk_at "rd"
 refine ⟨by show 1≤sizeLine; decide +kernel,fun o4 n4=>?_⟩
 generalize hX:upd _ o4 _=G4
 obtain ⟨e4,g4⟩:=new_facts (TS:=TS) hX n4
 clear hX
 walk_at "rs"
 replace E:=E.trans e4 trivial
 replace rs:=rs.ev e4
 clear n4
 have Fl:=F.len
 refine a_cat (TS:=TS) (ev_lst E hf trivial) g4 (by simp only [List.length_map,Fl]; exact le_line (Nat.le_of_ble_eq_true rfl)) fun lq Hq nq eq gq=>?_
 have rq:RowsQ Hq (.ref lq) (pr04_9 wa wb wx wf wg wp wq):=RowsQ.mk (gq.trans (by rw [show [V.ref t3]=[t3].map V.ref from rfl,← List.map_append]; first | done | rfl)) (((F.ev E).app rs).ev eq)
 replace E:=E.trans eq trivial
 walk_at "rd"
 exact ⟨_,_,_,_,rfl,E1.trans E trivial,(fun T e=>(hk0 T e).ev E),(fun T e=>(h20 T e).ev E),(fun T e=>(h30 T e).ev E),(fun R e=>by cases e; exact ⟨lq,rfl,rq.get⟩)⟩
theorem pr_s8 (TS:List (Addr × Str)) {f:Addr} (cdv:Value) (A:Around) (outer:List Env) (s:Shared) (Hs H:Hp) (Q:VK) (E0:XK) (wa wb wx wf wg wp wq:Str) (W4:Ws04 [wa,wb,wx,wf,wg,wp,wq]) (kk:∀ (r:Addr) (H':Hp),Ev TS [] Hs H'→RowsQ H' (.ref r) (pr04_16 wa wb wx wf wg wp wq)→Q (.ref r) H') (hr:Room 0 (A.deeper (envOfC "_law_procedures" (defScope s_procedures) s.heap.objs.size f cdv))):∃ t,PSs (cxOf CX0 P w K mg base ["_law_a","_law_b","_law_x","_law_f","_law_g","_law_p","_law_q","_law_known","_law_found","_law_two","_law_three"] "_law_procedures" (defScope s_procedures) f cdv A outer s H E0).nox ((defBody s_procedures).drop 8) t∧∀ σ H',InvPr TS Hs wa wb wx wf wg wp wq (some [[("define" : Str),wf,wx],[("take" : Str),wp,("spot" : Str),wx],[("end" : Str)]]) (some [[("define" : Str),wf,wx,wa],[("take" : Str),wa,("order" : Str),wa,("down" : Str)],[("move" : Str),wx,wa],[("end" : Str)]]) none (some (pr04_6 wa wb wx wf wg wp wq)) σ H'→t { nx:=fun _ H'=>Q .non H',rt:=Q } σ H':=by
 have l_wa:=W4.len (z:=wa) (by simp)
 have l_wb:=W4.len (z:=wb) (by simp)
 have l_wx:=W4.len (z:=wx) (by simp)
 have l_wf:=W4.len (z:=wf) (by simp)
 have l_wg:=W4.len (z:=wg) (by simp)
 have l_wp:=W4.len (z:=wp) (by simp)
 have l_wq:=W4.len (z:=wq) (by simp)
 obtain ⟨tl,dl,hl⟩:=pr_s9 TS (f:=f) (P:=P) (w:=w) (K:=K) (mg:=mg) (base:=base) cdv A outer s Hs H Q E0 wa wb wx wf wg wp wq W4 kk hr
 refine ⟨_,(C8.pss_cut (ps_set (i:=8) sc_procedures.nd rfl (Or.inl rfl) (pe_op op_cat (pv 8) (pe_lst (pa_cons (pe_tup (pa_cons (pe_op op_cat (pv 9) (pe_lst (pa_cons (pe_joined (PJ.cons pe_str (PJ.cons (pe_fmt (pv 3)) (PJ.cons pe_str (PJ.cons (pe_fmt (pv 0)) (PJ.cons pe_str (PJ.cons (pe_fmt (pv 0)) PJ.nil))))))) pa_nil))) (pa_cons pe_non pa_nil))) (pa_cons (pe_tup (pa_cons (pe_op op_cat (pv 9) (pe_lst (pa_cons (pe_joined (PJ.cons pe_str (PJ.cons (pe_fmt (pv 3)) (PJ.cons pe_str (PJ.cons (pe_fmt (pv 0)) PJ.nil))))) pa_nil))) (pa_cons pe_int pa_nil))) pa_nil))))) dl),?_⟩
 rintro σ H1 ⟨o7,o8,o9,o10,rfl,E1,hk0,h20,h30,hr0⟩
 obtain ⟨lh2,rfl,h2⟩:=id (h20 _ rfl)
 obtain ⟨lf,rfl,ts0,hf,F⟩:=id (hr0 _ rfl)
 have E:Ev TS [] H1 H1:=Ev.refl _ _
 refine ⟨InvPr TS Hs wa wb wx wf wg wp wq (some [[("define" : Str),wf,wx],[("take" : Str),wp,("spot" : Str),wx],[("end" : Str)]]) (some [[("define" : Str),wf,wx,wa],[("take" : Str),wa,("order" : Str),wa,("down" : Str)],[("move" : Str),wx,wa],[("end" : Str)]]) none (some (pr04_8 wa wb wx wf wg wp wq)),?_,hl⟩
 walk_at "rd"
 refine ⟨by decide +kernel,js_c (n:=20) (y:=wf) (by decide +kernel) (by omega) (by decide) (ht_v rfl (by omega)) fun q1b1=>js_c (y:=" ") q1b1 (by decide +kernel) (by decide) ht_c fun q1b2=>js_c (y:=wa) q1b2 (by omega) (by decide) (ht_v rfl (by omega)) fun q1b3=>js_c (y:=" ") q1b3 (by decide +kernel) (by decide) ht_c fun q1b4=>js_c (y:=wa) q1b4 (by omega) (by decide) (ht_v rfl (by omega)) fun q1b5=>?_⟩
 walk_at "rd"
 refine ⟨by show 1≤sizeLine; decide +kernel,fun l1 n1=>?_⟩
 generalize hX:upd _ l1 _=G1
 obtain ⟨e1,g1⟩:=new_facts (TS:=TS) hX n1
 clear hX
 walk_at "rs"
 replace E:=E.trans e1 trivial
 clear n1
 replace g1:G1 l1=some (.lst (([[("call" : Str),wf,wa,wa]].map lineS).map V.str)):=by rw [g1,fs4_6 wf wa wa]; simp only [List.map_cons,List.map_nil,ls1]
 refine a_cat (TS:=TS) (ev_lst E h2 trivial) g1 (by simp only [List.length_map]; exact le_line (Nat.le_of_ble_eq_true rfl)) fun l2 G2 n2 e2 g2=>?_
 replace E:=E.trans e2 trivial
 clear n2
 replace g2:G2 l2=some (.lst (([[("define" : Str),wf,wx,wa],[("take" : Str),wa,("order" : Str),wa,("down" : Str)],[("move" : Str),wx,wa],[("end" : Str)],[("call" : Str),wf,wa,wa]].map lineS).map V.str)):=by rw [g2,← List.map_append,← List.map_append]; rfl
 walk_at "rd"
 refine ⟨by show 2≤sizeLine; decide +kernel,fun t3 n3=>?_⟩
 generalize hX:upd _ t3 _=G3
 obtain ⟨e3,g3⟩:=new_facts (TS:=TS) hX n3
 clear hX
 walk_at "rs"
 replace E:=E.trans e3 trivial
 clear n3
 have rs:RowsL G3 _ _:=.cons (r:=([[("define" : Str),wf,wx,wa],[("take" : Str),wa,("order" : Str),wa,("down" : Str)],[("move" : Str),wx,wa],[("end" : Str)],[("call" : Str),wf,wa,wa]],none)) g3 (ev_lst e3 g2 trivial) .nil
 clear g3
 walk_at "rd"
 refine ⟨by decide +kernel,js_c (n:=20) (y:=wf) (by decide +kernel) (by omega) (by decide) (ht_v rfl (by omega)) fun q2c1=>js_c (y:=" ") q2c1 (by decide +kernel) (by decide) ht_c fun q2c2=>js_c (y:=wa) q2c2 (by omega) (by decide) (ht_v rfl (by omega)) fun q2c3=>?_⟩
 walk_at "rd"
 refine ⟨by show 1≤sizeLine; decide +kernel,fun l4 n4=>?_⟩
 generalize hX:upd _ l4 _=G4
 obtain ⟨e4,g4⟩:=new_facts (TS:=TS) hX n4
 clear hX
 walk_at "rs"
 replace E:=E.trans e4 trivial
 replace rs:=rs.ev e4
 clear n4
 replace g4:G4 l4=some (.lst (([[("call" : Str),wf,wa]].map lineS).map V.str)):=by rw [g4,fs4_4 wf wa]; simp only [List.map_cons,List.map_nil,ls1]
 refine a_cat (TS:=TS) (ev_lst E h2 trivial) g4 (by simp only [List.length_map]; exact le_line (Nat.le_of_ble_eq_true rfl)) fun l5 G5 n5 e5 g5=>?_
 replace E:=E.trans e5 trivial
 replace rs:=rs.ev e5
 clear n5
 replace g5:G5 l5=some (.lst (([[("define" : Str),wf,wx,wa],[("take" : Str),wa,("order" : Str),wa,("down" : Str)],[("move" : Str),wx,wa],[("end" : Str)],[("call" : Str),wf,wa]].map lineS).map V.str)):=by rw [g5,← List.map_append,← List.map_append]; rfl
 walk_at "rd"
 refine ⟨by show 2≤sizeLine; decide +kernel,fun t6 n6=>?_⟩
 generalize hX:upd _ t6 _=G6
 obtain ⟨e6,g6⟩:=new_facts (TS:=TS) hX n6
 clear hX
 walk_at "rs"
 replace E:=E.trans e6 trivial
 replace rs:=rs.ev e6
 clear n6
 replace rs:=RowsL.app rs (.cons (r:=([[("define" : Str),wf,wx,wa],[("take" : Str),wa,("order" : Str),wa,("down" : Str)],[("move" : Str),wx,wa],[("end" : Str)],[("call" : Str),wf,wa]],some 5)) g6 (ev_lst e6 g5 trivial) .nil)
 clear g6
 walk_at "rd"
 refine ⟨by show 2≤sizeLine; decide +kernel,fun o7 n7=>?_⟩
 generalize hX:upd _ o7 _=G7
 obtain ⟨e7,g7⟩:=new_facts (TS:=TS) hX n7
 clear hX
 walk_at "rs"
 replace E:=E.trans e7 trivial
 replace rs:=rs.ev e7
 clear n7
 have Fl:=F.len
 refine a_cat (TS:=TS) (ev_lst E hf trivial) g7 (by simp only [List.length_map,Fl]; exact le_line (Nat.le_of_ble_eq_true rfl)) fun lq Hq nq eq gq=>?_
 have rq:RowsQ Hq (.ref lq) (pr04_8 wa wb wx wf wg wp wq):=RowsQ.mk (gq.trans (by rw [show [V.ref t3,V.ref t6]=[t3,t6].map V.ref from rfl,← List.map_append]; first | done | rfl)) (((F.ev E).app rs).ev eq)
 replace E:=E.trans eq trivial
 walk_at "rd"
 exact ⟨_,_,_,_,rfl,E1.trans E trivial,(fun T e=>(hk0 T e).ev E),(fun T e=>(h20 T e).ev E),(fun T e=>(h30 T e).ev E),(fun R e=>by cases e; exact ⟨lq,rfl,rq.get⟩)⟩
theorem pr_s7 (TS:List (Addr × Str)) {f:Addr} (cdv:Value) (A:Around) (outer:List Env) (s:Shared) (Hs H:Hp) (Q:VK) (E0:XK) (wa wb wx wf wg wp wq:Str) (W4:Ws04 [wa,wb,wx,wf,wg,wp,wq]) (kk:∀ (r:Addr) (H':Hp),Ev TS [] Hs H'→RowsQ H' (.ref r) (pr04_16 wa wb wx wf wg wp wq)→Q (.ref r) H') (hr:Room 0 (A.deeper (envOfC "_law_procedures" (defScope s_procedures) s.heap.objs.size f cdv))):∃ t,PSs (cxOf CX0 P w K mg base ["_law_a","_law_b","_law_x","_law_f","_law_g","_law_p","_law_q","_law_known","_law_found","_law_two","_law_three"] "_law_procedures" (defScope s_procedures) f cdv A outer s H E0).nox ((defBody s_procedures).drop 7) t∧∀ σ H',InvPr TS Hs wa wb wx wf wg wp wq (some [[("define" : Str),wf,wx],[("take" : Str),wp,("spot" : Str),wx],[("end" : Str)]]) none none (some (pr04_6 wa wb wx wf wg wp wq)) σ H'→t { nx:=fun _ H'=>Q .non H',rt:=Q } σ H':=by
 have l_wa:=W4.len (z:=wa) (by simp)
 have l_wb:=W4.len (z:=wb) (by simp)
 have l_wx:=W4.len (z:=wx) (by simp)
 have l_wf:=W4.len (z:=wf) (by simp)
 have l_wg:=W4.len (z:=wg) (by simp)
 have l_wp:=W4.len (z:=wp) (by simp)
 have l_wq:=W4.len (z:=wq) (by simp)
 obtain ⟨tl,dl,hl⟩:=pr_s8 TS (f:=f) (P:=P) (w:=w) (K:=K) (mg:=mg) (base:=base) cdv A outer s Hs H Q E0 wa wb wx wf wg wp wq W4 kk hr
 refine ⟨_,(C8.pss_cut (ps_set (i:=9) sc_procedures.nd rfl (Or.inl rfl) (pe_lst (pa_cons (pe_joined (PJ.cons pe_str (PJ.cons (pe_fmt (pv 3)) (PJ.cons pe_str (PJ.cons (pe_fmt (pv 2)) (PJ.cons pe_str (PJ.cons (pe_fmt (pv 0)) PJ.nil))))))) (pa_cons (pe_joined (PJ.cons pe_str (PJ.cons (pe_fmt (pv 0)) (PJ.cons pe_str (PJ.cons (pe_fmt (pv 0)) (PJ.cons pe_str PJ.nil)))))) (pa_cons (pe_joined (PJ.cons pe_str (PJ.cons (pe_fmt (pv 2)) (PJ.cons pe_str (PJ.cons (pe_fmt (pv 0)) PJ.nil))))) (pa_cons pe_str pa_nil)))))) dl),?_⟩
 rintro σ H1 ⟨o7,o8,o9,o10,rfl,E1,hk0,h20,h30,hr0⟩
 have E:Ev TS [] H1 H1:=Ev.refl _ _
 refine ⟨InvPr TS Hs wa wb wx wf wg wp wq (some [[("define" : Str),wf,wx],[("take" : Str),wp,("spot" : Str),wx],[("end" : Str)]]) (some [[("define" : Str),wf,wx,wa],[("take" : Str),wa,("order" : Str),wa,("down" : Str)],[("move" : Str),wx,wa],[("end" : Str)]]) none (some (pr04_6 wa wb wx wf wg wp wq)),?_,hl⟩
 walk_at "rd"
 refine ⟨by decide +kernel,js_c (n:=20) (y:=wf) (by decide +kernel) (by omega) (by decide) (ht_v rfl (by omega)) fun q1b1=>js_c (y:=" ") q1b1 (by decide +kernel) (by decide) ht_c fun q1b2=>js_c (y:=wx) q1b2 (by omega) (by decide) (ht_v rfl (by omega)) fun q1b3=>js_c (y:=" ") q1b3 (by decide +kernel) (by decide) ht_c fun q1b4=>js_c (y:=wa) q1b4 (by omega) (by decide) (ht_v rfl (by omega)) fun q1b5=>?_⟩
 walk_at "rd"
 refine ⟨by decide +kernel,js_c (n:=20) (y:=wa) (by decide +kernel) (by omega) (by decide) (ht_v rfl (by omega)) fun q2c1=>js_c (y:=" order ") q2c1 (by decide +kernel) (by decide) ht_c fun q2c2=>js_c (y:=wa) q2c2 (by omega) (by decide) (ht_v rfl (by omega)) fun q2c3=>js_c (y:=" down") q2c3 (by decide +kernel) (by decide) ht_c fun q2c4=>?_⟩
 walk_at "rd"
 refine ⟨by decide +kernel,js_c (n:=20) (y:=wx) (by decide +kernel) (by omega) (by decide) (ht_v rfl (by omega)) fun q3d1=>js_c (y:=" ") q3d1 (by decide +kernel) (by decide) ht_c fun q3d2=>js_c (y:=wa) q3d2 (by omega) (by decide) (ht_v rfl (by omega)) fun q3d3=>?_⟩
 walk_at "rd"
 refine ⟨by show 4≤sizeLine; decide +kernel,fun l1 n1=>?_⟩
 generalize hX:upd _ l1 _=G1
 obtain ⟨e1,g1⟩:=new_facts (TS:=TS) hX n1
 clear hX
 walk_at "rs"
 replace E:=E.trans e1 trivial
 clear n1
 replace g1:G1 l1=some (.lst (([[("define" : Str),wf,wx,wa],[("take" : Str),wa,("order" : Str),wa,("down" : Str)],[("move" : Str),wx,wa],[("end" : Str)]].map lineS).map V.str)):=by rw [g1,fs4_1 wf wx wa,fs4_7 wa wa,fs4_8 wx wa]; simp only [List.map_cons,List.map_nil,ls1]
 walk_at "rd"
 exact ⟨_,_,_,_,rfl,E1.trans E trivial,(fun T e=>(hk0 T e).ev E),(fun T e=>by cases e; exact ⟨_,rfl,g1⟩),(fun T e=>(h30 T e).ev E),fun R e=>(hr0 R e).ev E⟩
theorem pr_s6 (TS:List (Addr × Str)) {f:Addr} (cdv:Value) (A:Around) (outer:List Env) (s:Shared) (Hs H:Hp) (Q:VK) (E0:XK) (wa wb wx wf wg wp wq:Str) (W4:Ws04 [wa,wb,wx,wf,wg,wp,wq]) (kk:∀ (r:Addr) (H':Hp),Ev TS [] Hs H'→RowsQ H' (.ref r) (pr04_16 wa wb wx wf wg wp wq)→Q (.ref r) H') (hr:Room 0 (A.deeper (envOfC "_law_procedures" (defScope s_procedures) s.heap.objs.size f cdv))):∃ t,PSs (cxOf CX0 P w K mg base ["_law_a","_law_b","_law_x","_law_f","_law_g","_law_p","_law_q","_law_known","_law_found","_law_two","_law_three"] "_law_procedures" (defScope s_procedures) f cdv A outer s H E0).nox ((defBody s_procedures).drop 6) t∧∀ σ H',InvPr TS Hs wa wb wx wf wg wp wq (some [[("define" : Str),wf,wx],[("take" : Str),wp,("spot" : Str),wx],[("end" : Str)]]) none none (some (pr04_5 wa wb wx wf wg wp wq)) σ H'→t { nx:=fun _ H'=>Q .non H',rt:=Q } σ H':=by
 have l_wa:=W4.len (z:=wa) (by simp)
 have l_wb:=W4.len (z:=wb) (by simp)
 have l_wx:=W4.len (z:=wx) (by simp)
 have l_wf:=W4.len (z:=wf) (by simp)
 have l_wg:=W4.len (z:=wg) (by simp)
 have l_wp:=W4.len (z:=wp) (by simp)
 have l_wq:=W4.len (z:=wq) (by simp)
 obtain ⟨tl,dl,hl⟩:=pr_s7 TS (f:=f) (P:=P) (w:=w) (K:=K) (mg:=mg) (base:=base) cdv A outer s Hs H Q E0 wa wb wx wf wg wp wq W4 kk hr
 refine ⟨_,(C8.pss_cut (ps_set (i:=8) sc_procedures.nd rfl (Or.inl rfl) (pe_op op_cat (pv 8) (pe_lst (pa_cons (pe_tup (pa_cons (pe_op op_cat (pv 7) (pe_lst (pa_cons (pe_joined (PJ.cons pe_str (PJ.cons (pe_fmt (pv 4)) (PJ.cons pe_str (PJ.cons (pe_fmt (pv 0)) PJ.nil))))) pa_nil))) (pa_cons pe_int pa_nil))) pa_nil)))) dl),?_⟩
 rintro σ H1 ⟨o7,o8,o9,o10,rfl,E1,hk0,h20,h30,hr0⟩
 obtain ⟨lhk,rfl,hk⟩:=id (hk0 _ rfl)
 obtain ⟨lf,rfl,ts0,hf,F⟩:=id (hr0 _ rfl)
 have E:Ev TS [] H1 H1:=Ev.refl _ _
 refine ⟨InvPr TS Hs wa wb wx wf wg wp wq (some [[("define" : Str),wf,wx],[("take" : Str),wp,("spot" : Str),wx],[("end" : Str)]]) none none (some (pr04_6 wa wb wx wf wg wp wq)),?_,hl⟩
 walk_at "rd"
 refine ⟨by decide +kernel,js_c (n:=20) (y:=wg) (by decide +kernel) (by omega) (by decide) (ht_v rfl (by omega)) fun q1b1=>js_c (y:=" ") q1b1 (by decide +kernel) (by decide) ht_c fun q1b2=>js_c (y:=wa) q1b2 (by omega) (by decide) (ht_v rfl (by omega)) fun q1b3=>?_⟩
 walk_at "rd"
 refine ⟨by show 1≤sizeLine; decide +kernel,fun l1 n1=>?_⟩
 generalize hX:upd _ l1 _=G1
 obtain ⟨e1,g1⟩:=new_facts (TS:=TS) hX n1
 clear hX
 walk_at "rs"
 replace E:=E.trans e1 trivial
 clear n1
 replace g1:G1 l1=some (.lst (([[("call" : Str),wg,wa]].map lineS).map V.str)):=by rw [g1,fs4_4 wg wa]; simp only [List.map_cons,List.map_nil,ls1]
 refine a_cat (TS:=TS) (ev_lst E hk trivial) g1 (by simp only [List.length_map]; exact le_line (Nat.le_of_ble_eq_true rfl)) fun l2 G2 n2 e2 g2=>?_
 replace E:=E.trans e2 trivial
 clear n2
 replace g2:G2 l2=some (.lst (([[("define" : Str),wf,wx],[("take" : Str),wp,("spot" : Str),wx],[("end" : Str)],[("call" : Str),wg,wa]].map lineS).map V.str)):=by rw [g2,← List.map_append,← List.map_append]; rfl
 walk_at "rd"
 refine ⟨by show 2≤sizeLine; decide +kernel,fun t3 n3=>?_⟩
 generalize hX:upd _ t3 _=G3
 obtain ⟨e3,g3⟩:=new_facts (TS:=TS) hX n3
 clear hX
 walk_at "rs"
 replace E:=E.trans e3 trivial
 clear n3
 have rs:RowsL G3 _ _:=.cons (r:=([[("define" : Str),wf,wx],[("take" : Str),wp,("spot" : Str),wx],[("end" : Str)],[("call" : Str),wg,wa]],some 4)) g3 (ev_lst e3 g2 trivial) .nil
 clear g3
 walk_at "rd"
 refine ⟨by show 1≤sizeLine; decide +kernel,fun o4 n4=>?_⟩
 generalize hX:upd _ o4 _=G4
 obtain ⟨e4,g4⟩:=new_facts (TS:=TS) hX n4
 clear hX
 walk_at "rs"
 replace E:=E.trans e4 trivial
 replace rs:=rs.ev e4
 clear n4
 have Fl:=F.len
 refine a_cat (TS:=TS) (ev_lst E hf trivial) g4 (by simp only [List.length_map,Fl]; exact le_line (Nat.le_of_ble_eq_true rfl)) fun lq Hq nq eq gq=>?_
 have rq:RowsQ Hq (.ref lq) (pr04_6 wa wb wx wf wg wp wq):=RowsQ.mk (gq.trans (by rw [show [V.ref t3]=[t3].map V.ref from rfl,← List.map_append]; first | done | rfl)) (((F.ev E).app rs).ev eq)
 replace E:=E.trans eq trivial
 walk_at "rd"
 exact ⟨_,_,_,_,rfl,E1.trans E trivial,(fun T e=>(hk0 T e).ev E),(fun T e=>(h20 T e).ev E),(fun T e=>(h30 T e).ev E),(fun R e=>by cases e; exact ⟨lq,rfl,rq.get⟩)⟩
theorem pr_s5 (TS:List (Addr × Str)) {f:Addr} (cdv:Value) (A:Around) (outer:List Env) (s:Shared) (Hs H:Hp) (Q:VK) (E0:XK) (wa wb wx wf wg wp wq:Str) (W4:Ws04 [wa,wb,wx,wf,wg,wp,wq]) (kk:∀ (r:Addr) (H':Hp),Ev TS [] Hs H'→RowsQ H' (.ref r) (pr04_16 wa wb wx wf wg wp wq)→Q (.ref r) H') (hr:Room 0 (A.deeper (envOfC "_law_procedures" (defScope s_procedures) s.heap.objs.size f cdv))):∃ t,PSs (cxOf CX0 P w K mg base ["_law_a","_law_b","_law_x","_law_f","_law_g","_law_p","_law_q","_law_known","_law_found","_law_two","_law_three"] "_law_procedures" (defScope s_procedures) f cdv A outer s H E0).nox ((defBody s_procedures).drop 5) t∧∀ σ H',InvPr TS Hs wa wb wx wf wg wp wq (some [[("define" : Str),wf,wx],[("take" : Str),wp,("spot" : Str),wx],[("end" : Str)]]) none none (some (pr04_4 wa wb wx wf wg wp wq)) σ H'→t { nx:=fun _ H'=>Q .non H',rt:=Q } σ H':=by
 have l_wa:=W4.len (z:=wa) (by simp)
 have l_wb:=W4.len (z:=wb) (by simp)
 have l_wx:=W4.len (z:=wx) (by simp)
 have l_wf:=W4.len (z:=wf) (by simp)
 have l_wg:=W4.len (z:=wg) (by simp)
 have l_wp:=W4.len (z:=wp) (by simp)
 have l_wq:=W4.len (z:=wq) (by simp)
 obtain ⟨tl,dl,hl⟩:=pr_s6 TS (f:=f) (P:=P) (w:=w) (K:=K) (mg:=mg) (base:=base) cdv A outer s Hs H Q E0 wa wb wx wf wg wp wq W4 kk hr
 refine ⟨_,(C8.pss_cut (ps_set (i:=8) sc_procedures.nd rfl (Or.inl rfl) (pe_op op_cat (pv 8) (pe_lst (pa_cons (pe_tup (pa_cons (pe_op op_cat (pv 7) (pe_lst (pa_cons (pe_joined (PJ.cons pe_str (PJ.cons (pe_fmt (pv 3)) (PJ.cons pe_str (PJ.cons (pe_fmt (pv 0)) (PJ.cons pe_str (PJ.cons (pe_fmt (pv 1)) PJ.nil))))))) pa_nil))) (pa_cons pe_int pa_nil))) (pa_cons (pe_tup (pa_cons (pe_op op_cat (pv 7) (pe_lst (pa_cons (pe_joined (PJ.cons pe_str (PJ.cons (pe_fmt (pv 3)) (PJ.cons pe_str (PJ.cons (pe_fmt (pv 0)) PJ.nil))))) pa_nil))) (pa_cons pe_non pa_nil))) pa_nil))))) dl),?_⟩
 rintro σ H1 ⟨o7,o8,o9,o10,rfl,E1,hk0,h20,h30,hr0⟩
 obtain ⟨lhk,rfl,hk⟩:=id (hk0 _ rfl)
 obtain ⟨lf,rfl,ts0,hf,F⟩:=id (hr0 _ rfl)
 have E:Ev TS [] H1 H1:=Ev.refl _ _
 refine ⟨InvPr TS Hs wa wb wx wf wg wp wq (some [[("define" : Str),wf,wx],[("take" : Str),wp,("spot" : Str),wx],[("end" : Str)]]) none none (some (pr04_5 wa wb wx wf wg wp wq)),?_,hl⟩
 walk_at "rd"
 refine ⟨by decide +kernel,js_c (n:=20) (y:=wf) (by decide +kernel) (by omega) (by decide) (ht_v rfl (by omega)) fun q1b1=>js_c (y:=" ") q1b1 (by decide +kernel) (by decide) ht_c fun q1b2=>js_c (y:=wa) q1b2 (by omega) (by decide) (ht_v rfl (by omega)) fun q1b3=>js_c (y:=" ") q1b3 (by decide +kernel) (by decide) ht_c fun q1b4=>js_c (y:=wb) q1b4 (by omega) (by decide) (ht_v rfl (by omega)) fun q1b5=>?_⟩
 walk_at "rd"
 refine ⟨by show 1≤sizeLine; decide +kernel,fun l1 n1=>?_⟩
 generalize hX:upd _ l1 _=G1
 obtain ⟨e1,g1⟩:=new_facts (TS:=TS) hX n1
 clear hX
 walk_at "rs"
 replace E:=E.trans e1 trivial
 clear n1
 replace g1:G1 l1=some (.lst (([[("call" : Str),wf,wa,wb]].map lineS).map V.str)):=by rw [g1,fs4_6 wf wa wb]; simp only [List.map_cons,List.map_nil,ls1]
 refine a_cat (TS:=TS) (ev_lst E hk trivial) g1 (by simp only [List.length_map]; exact le_line (Nat.le_of_ble_eq_true rfl)) fun l2 G2 n2 e2 g2=>?_
 replace E:=E.trans e2 trivial
 clear n2
 replace g2:G2 l2=some (.lst (([[("define" : Str),wf,wx],[("take" : Str),wp,("spot" : Str),wx],[("end" : Str)],[("call" : Str),wf,wa,wb]].map lineS).map V.str)):=by rw [g2,← List.map_append,← List.map_append]; rfl
 walk_at "rd"
 refine ⟨by show 2≤sizeLine; decide +kernel,fun t3 n3=>?_⟩
 generalize hX:upd _ t3 _=G3
 obtain ⟨e3,g3⟩:=new_facts (TS:=TS) hX n3
 clear hX
 walk_at "rs"
 replace E:=E.trans e3 trivial
 clear n3
 have rs:RowsL G3 _ _:=.cons (r:=([[("define" : Str),wf,wx],[("take" : Str),wp,("spot" : Str),wx],[("end" : Str)],[("call" : Str),wf,wa,wb]],some 4)) g3 (ev_lst e3 g2 trivial) .nil
 clear g3
 walk_at "rd"
 refine ⟨by decide +kernel,js_c (n:=20) (y:=wf) (by decide +kernel) (by omega) (by decide) (ht_v rfl (by omega)) fun q2c1=>js_c (y:=" ") q2c1 (by decide +kernel) (by decide) ht_c fun q2c2=>js_c (y:=wa) q2c2 (by omega) (by decide) (ht_v rfl (by omega)) fun q2c3=>?_⟩
 walk_at "rd"
 refine ⟨by show 1≤sizeLine; decide +kernel,fun l4 n4=>?_⟩
 generalize hX:upd _ l4 _=G4
 obtain ⟨e4,g4⟩:=new_facts (TS:=TS) hX n4
 clear hX
 walk_at "rs"
 replace E:=E.trans e4 trivial
 replace rs:=rs.ev e4
 clear n4
 replace g4:G4 l4=some (.lst (([[("call" : Str),wf,wa]].map lineS).map V.str)):=by rw [g4,fs4_4 wf wa]; simp only [List.map_cons,List.map_nil,ls1]
 refine a_cat (TS:=TS) (ev_lst E hk trivial) g4 (by simp only [List.length_map]; exact le_line (Nat.le_of_ble_eq_true rfl)) fun l5 G5 n5 e5 g5=>?_
 replace E:=E.trans e5 trivial
 replace rs:=rs.ev e5
 clear n5
 replace g5:G5 l5=some (.lst (([[("define" : Str),wf,wx],[("take" : Str),wp,("spot" : Str),wx],[("end" : Str)],[("call" : Str),wf,wa]].map lineS).map V.str)):=by rw [g5,← List.map_append,← List.map_append]; rfl
 walk_at "rd"
 refine ⟨by show 2≤sizeLine; decide +kernel,fun t6 n6=>?_⟩
 generalize hX:upd _ t6 _=G6
 obtain ⟨e6,g6⟩:=new_facts (TS:=TS) hX n6
 clear hX
 walk_at "rs"
 replace E:=E.trans e6 trivial
 replace rs:=rs.ev e6
 clear n6
 replace rs:=RowsL.app rs (.cons (r:=([[("define" : Str),wf,wx],[("take" : Str),wp,("spot" : Str),wx],[("end" : Str)],[("call" : Str),wf,wa]],none)) g6 (ev_lst e6 g5 trivial) .nil)
 clear g6
 walk_at "rd"
 refine ⟨by show 2≤sizeLine; decide +kernel,fun o7 n7=>?_⟩
 generalize hX:upd _ o7 _=G7
 obtain ⟨e7,g7⟩:=new_facts (TS:=TS) hX n7
 clear hX
 walk_at "rs"
 replace E:=E.trans e7 trivial
 replace rs:=rs.ev e7
 clear n7
 have Fl:=F.len
 refine a_cat (TS:=TS) (ev_lst E hf trivial) g7 (by simp only [List.length_map,Fl]; exact le_line (Nat.le_of_ble_eq_true rfl)) fun lq Hq nq eq gq=>?_
 have rq:RowsQ Hq (.ref lq) (pr04_5 wa wb wx wf wg wp wq):=RowsQ.mk (gq.trans (by rw [show [V.ref t3,V.ref t6]=[t3,t6].map V.ref from rfl,← List.map_append]; first | done | rfl)) (((F.ev E).app rs).ev eq)
 replace E:=E.trans eq trivial
 walk_at "rd"
 exact ⟨_,_,_,_,rfl,E1.trans E trivial,(fun T e=>(hk0 T e).ev E),(fun T e=>(h20 T e).ev E),(fun T e=>(h30 T e).ev E),(fun R e=>by cases e; exact ⟨lq,rfl,rq.get⟩)⟩
theorem pr_s4 (TS:List (Addr × Str)) {f:Addr} (cdv:Value) (A:Around) (outer:List Env) (s:Shared) (Hs H:Hp) (Q:VK) (E0:XK) (wa wb wx wf wg wp wq:Str) (W4:Ws04 [wa,wb,wx,wf,wg,wp,wq]) (kk:∀ (r:Addr) (H':Hp),Ev TS [] Hs H'→RowsQ H' (.ref r) (pr04_16 wa wb wx wf wg wp wq)→Q (.ref r) H') (hr:Room 0 (A.deeper (envOfC "_law_procedures" (defScope s_procedures) s.heap.objs.size f cdv))):∃ t,PSs (cxOf CX0 P w K mg base ["_law_a","_law_b","_law_x","_law_f","_law_g","_law_p","_law_q","_law_known","_law_found","_law_two","_law_three"] "_law_procedures" (defScope s_procedures) f cdv A outer s H E0).nox ((defBody s_procedures).drop 4) t∧∀ σ H',InvPr TS Hs wa wb wx wf wg wp wq (some [[("define" : Str),wf,wx],[("take" : Str),wp,("spot" : Str),wx],[("end" : Str)]]) none none (some (pr04_3 wa wb wx wf wg wp wq)) σ H'→t { nx:=fun _ H'=>Q .non H',rt:=Q } σ H':=by
 have l_wa:=W4.len (z:=wa) (by simp)
 have l_wb:=W4.len (z:=wb) (by simp)
 have l_wx:=W4.len (z:=wx) (by simp)
 have l_wf:=W4.len (z:=wf) (by simp)
 have l_wg:=W4.len (z:=wg) (by simp)
 have l_wp:=W4.len (z:=wp) (by simp)
 have l_wq:=W4.len (z:=wq) (by simp)
 obtain ⟨tl,dl,hl⟩:=pr_s5 TS (f:=f) (P:=P) (w:=w) (K:=K) (mg:=mg) (base:=base) cdv A outer s Hs H Q E0 wa wb wx wf wg wp wq W4 kk hr
 refine ⟨_,(C8.pss_cut (ps_set (i:=8) sc_procedures.nd rfl (Or.inl rfl) (pe_op op_cat (pv 8) (pe_lst (pa_cons (pe_tup (pa_cons (pe_lst (pa_cons (pe_joined (PJ.cons pe_str (PJ.cons (pe_fmt (pv 3)) (PJ.cons pe_str (PJ.cons (pe_fmt (pv 0)) PJ.nil))))) (pa_cons (pe_joined (PJ.cons pe_str (PJ.cons (pe_fmt (pv 5)) (PJ.cons pe_str (PJ.cons (pe_fmt (pv 0)) PJ.nil))))) (pa_cons pe_str (pa_cons (pe_joined (PJ.cons pe_str (PJ.cons (pe_fmt (pv 3)) (PJ.cons pe_str (PJ.cons (pe_fmt (pv 1)) PJ.nil))))) pa_nil))))) (pa_cons pe_non pa_nil))) pa_nil)))) dl),?_⟩
 rintro σ H1 ⟨o7,o8,o9,o10,rfl,E1,hk0,h20,h30,hr0⟩
 obtain ⟨lf,rfl,ts0,hf,F⟩:=id (hr0 _ rfl)
 have E:Ev TS [] H1 H1:=Ev.refl _ _
 refine ⟨InvPr TS Hs wa wb wx wf wg wp wq (some [[("define" : Str),wf,wx],[("take" : Str),wp,("spot" : Str),wx],[("end" : Str)]]) none none (some (pr04_4 wa wb wx wf wg wp wq)),?_,hl⟩
 walk_at "rd"
 refine ⟨by decide +kernel,js_c (n:=20) (y:=wf) (by decide +kernel) (by omega) (by decide) (ht_v rfl (by omega)) fun q1b1=>js_c (y:=" ") q1b1 (by decide +kernel) (by decide) ht_c fun q1b2=>js_c (y:=wa) q1b2 (by omega) (by decide) (ht_v rfl (by omega)) fun q1b3=>?_⟩
 walk_at "rd"
 refine ⟨by decide +kernel,js_c (n:=20) (y:=wp) (by decide +kernel) (by omega) (by decide) (ht_v rfl (by omega)) fun q2c1=>js_c (y:=" turn ") q2c1 (by decide +kernel) (by decide) ht_c fun q2c2=>js_c (y:=wa) q2c2 (by omega) (by decide) (ht_v rfl (by omega)) fun q2c3=>?_⟩
 walk_at "rd"
 refine ⟨by decide +kernel,js_c (n:=20) (y:=wf) (by decide +kernel) (by omega) (by decide) (ht_v rfl (by omega)) fun q3d1=>js_c (y:=" ") q3d1 (by decide +kernel) (by decide) ht_c fun q3d2=>js_c (y:=wb) q3d2 (by omega) (by decide) (ht_v rfl (by omega)) fun q3d3=>?_⟩
 walk_at "rd"
 refine ⟨by show 4≤sizeLine; decide +kernel,fun l1 n1=>?_⟩
 generalize hX:upd _ l1 _=G1
 obtain ⟨e1,g1⟩:=new_facts (TS:=TS) hX n1
 clear hX
 walk_at "rs"
 replace E:=E.trans e1 trivial
 clear n1
 replace g1:G1 l1=some (.lst (([[("define" : Str),wf,wa],[("take" : Str),wp,("turn" : Str),wa],[("end" : Str)],[("call" : Str),wf,wb]].map lineS).map V.str)):=by rw [g1,fs4_5 wf wa,fs4_0 wp wa,fs4_4 wf wb]; simp only [List.map_cons,List.map_nil,ls1]
 walk_at "rd"
 refine ⟨by show 2≤sizeLine; decide +kernel,fun t2 n2=>?_⟩
 generalize hX:upd _ t2 _=G2
 obtain ⟨e2,g2⟩:=new_facts (TS:=TS) hX n2
 clear hX
 walk_at "rs"
 replace E:=E.trans e2 trivial
 clear n2
 have rs:RowsL G2 _ _:=.cons (r:=([[("define" : Str),wf,wa],[("take" : Str),wp,("turn" : Str),wa],[("end" : Str)],[("call" : Str),wf,wb]],none)) g2 (ev_lst e2 g1 trivial) .nil
 clear g2
 walk_at "rd"
 refine ⟨by show 1≤sizeLine; decide +kernel,fun o3 n3=>?_⟩
 generalize hX:upd _ o3 _=G3
 obtain ⟨e3,g3⟩:=new_facts (TS:=TS) hX n3
 clear hX
 walk_at "rs"
 replace E:=E.trans e3 trivial
 replace rs:=rs.ev e3
 clear n3
 have Fl:=F.len
 refine a_cat (TS:=TS) (ev_lst E hf trivial) g3 (by simp only [List.length_map,Fl]; exact le_line (Nat.le_of_ble_eq_true rfl)) fun lq Hq nq eq gq=>?_
 have rq:RowsQ Hq (.ref lq) (pr04_4 wa wb wx wf wg wp wq):=RowsQ.mk (gq.trans (by rw [show [V.ref t2]=[t2].map V.ref from rfl,← List.map_append]; first | done | rfl)) (((F.ev E).app rs).ev eq)
 replace E:=E.trans eq trivial
 walk_at "rd"
 exact ⟨_,_,_,_,rfl,E1.trans E trivial,(fun T e=>(hk0 T e).ev E),(fun T e=>(h20 T e).ev E),(fun T e=>(h30 T e).ev E),(fun R e=>by cases e; exact ⟨lq,rfl,rq.get⟩)⟩
theorem pr_s3 (TS:List (Addr × Str)) {f:Addr} (cdv:Value) (A:Around) (outer:List Env) (s:Shared) (Hs H:Hp) (Q:VK) (E0:XK) (wa wb wx wf wg wp wq:Str) (W4:Ws04 [wa,wb,wx,wf,wg,wp,wq]) (kk:∀ (r:Addr) (H':Hp),Ev TS [] Hs H'→RowsQ H' (.ref r) (pr04_16 wa wb wx wf wg wp wq)→Q (.ref r) H') (hr:Room 0 (A.deeper (envOfC "_law_procedures" (defScope s_procedures) s.heap.objs.size f cdv))):∃ t,PSs (cxOf CX0 P w K mg base ["_law_a","_law_b","_law_x","_law_f","_law_g","_law_p","_law_q","_law_known","_law_found","_law_two","_law_three"] "_law_procedures" (defScope s_procedures) f cdv A outer s H E0).nox ((defBody s_procedures).drop 3) t∧∀ σ H',InvPr TS Hs wa wb wx wf wg wp wq (some [[("define" : Str),wf,wx],[("take" : Str),wp,("spot" : Str),wx],[("end" : Str)]]) none none (some (pr04_2 wa wb wx wf wg wp wq)) σ H'→t { nx:=fun _ H'=>Q .non H',rt:=Q } σ H':=by
 have l_wa:=W4.len (z:=wa) (by simp)
 have l_wb:=W4.len (z:=wb) (by simp)
 have l_wx:=W4.len (z:=wx) (by simp)
 have l_wf:=W4.len (z:=wf) (by simp)
 have l_wg:=W4.len (z:=wg) (by simp)
 have l_wp:=W4.len (z:=wp) (by simp)
 have l_wq:=W4.len (z:=wq) (by simp)
 obtain ⟨tl,dl,hl⟩:=pr_s4 TS (f:=f) (P:=P) (w:=w) (K:=K) (mg:=mg) (base:=base) cdv A outer s Hs H Q E0 wa wb wx wf wg wp wq W4 kk hr
 refine ⟨_,(C8.pss_cut (ps_set (i:=8) sc_procedures.nd rfl (Or.inl rfl) (pe_op op_cat (pv 8) (pe_lst (pa_cons (pe_tup (pa_cons (pe_lst (pa_cons (pe_joined (PJ.cons pe_str (PJ.cons (pe_fmt (pv 3)) (PJ.cons pe_str (PJ.cons (pe_fmt (pv 2)) PJ.nil))))) (pa_cons (pe_joined (PJ.cons pe_str (PJ.cons (pe_fmt (pv 5)) (PJ.cons pe_str (PJ.cons (pe_fmt (pv 0)) PJ.nil))))) pa_nil))) (pa_cons pe_int pa_nil))) (pa_cons (pe_tup (pa_cons (pe_lst (pa_cons (pe_joined (PJ.cons pe_str (PJ.cons (pe_fmt (pv 3)) (PJ.cons pe_str (PJ.cons (pe_fmt (pv 2)) PJ.nil))))) (pa_cons (pe_joined (PJ.cons pe_str (PJ.cons (pe_fmt (pv 3)) (PJ.cons pe_str (PJ.cons (pe_fmt (pv 2)) PJ.nil))))) pa_nil))) (pa_cons pe_int pa_nil))) pa_nil))))) dl),?_⟩
 rintro σ H1 ⟨o7,o8,o9,o10,rfl,E1,hk0,h20,h30,hr0⟩
 obtain ⟨lf,rfl,ts0,hf,F⟩:=id (hr0 _ rfl)
 have E:Ev TS [] H1 H1:=Ev.refl _ _
 refine ⟨InvPr TS Hs wa wb wx wf wg wp wq (some [[("define" : Str),wf,wx],[("take" : Str),wp,("spot" : Str),wx],[("end" : Str)]]) none none (some (pr04_3 wa wb wx wf wg wp wq)),?_,hl⟩
 walk_at "rd"
 refine ⟨by decide +kernel,js_c (n:=20) (y:=wf) (by decide +kernel) (by omega) (by decide) (ht_v rfl (by omega)) fun q1b1=>js_c (y:=" ") q1b1 (by decide +kernel) (by decide) ht_c fun q1b2=>js_c (y:=wx) q1b2 (by omega) (by decide) (ht_v rfl (by omega)) fun q1b3=>?_⟩
 walk_at "rd"
 refine ⟨by decide +kernel,js_c (n:=20) (y:=wp) (by decide +kernel) (by omega) (by decide) (ht_v rfl (by omega)) fun q2c1=>js_c (y:=" turn ") q2c1 (by decide +kernel) (by decide) ht_c fun q2c2=>js_c (y:=wa) q2c2 (by omega) (by decide) (ht_v rfl (by omega)) fun q2c3=>?_⟩
 walk_at "rd"
 refine ⟨by show 2≤sizeLine; decide +kernel,fun l1 n1=>?_⟩
 generalize hX:upd _ l1 _=G1
 obtain ⟨e1,g1⟩:=new_facts (TS:=TS) hX n1
 clear hX
 walk_at "rs"
 replace E:=E.trans e1 trivial
 clear n1
 replace g1:G1 l1=some (.lst (([[("define" : Str),wf,wx],[("take" : Str),wp,("turn" : Str),wa]].map lineS).map V.str)):=by rw [g1,fs4_5 wf wx,fs4_0 wp wa]; simp only [List.map_cons,List.map_nil,ls1]
 walk_at "rd"
 refine ⟨by show 2≤sizeLine; decide +kernel,fun t2 n2=>?_⟩
 generalize hX:upd _ t2 _=G2
 obtain ⟨e2,g2⟩:=new_facts (TS:=TS) hX n2
 clear hX
 walk_at "rs"
 replace E:=E.trans e2 trivial
 clear n2
 have rs:RowsL G2 _ _:=.cons (r:=([[("define" : Str),wf,wx],[("take" : Str),wp,("turn" : Str),wa]],some 2)) g2 (ev_lst e2 g1 trivial) .nil
 clear g2
 walk_at "rd"
 refine ⟨by decide +kernel,js_c (n:=20) (y:=wf) (by decide +kernel) (by omega) (by decide) (ht_v rfl (by omega)) fun q3d1=>js_c (y:=" ") q3d1 (by decide +kernel) (by decide) ht_c fun q3d2=>js_c (y:=wx) q3d2 (by omega) (by decide) (ht_v rfl (by omega)) fun q3d3=>?_⟩
 walk_at "rd"
 refine ⟨by decide +kernel,js_c (n:=20) (y:=wf) (by decide +kernel) (by omega) (by decide) (ht_v rfl (by omega)) fun q4e1=>js_c (y:=" ") q4e1 (by decide +kernel) (by decide) ht_c fun q4e2=>js_c (y:=wx) q4e2 (by omega) (by decide) (ht_v rfl (by omega)) fun q4e3=>?_⟩
 walk_at "rd"
 refine ⟨by show 2≤sizeLine; decide +kernel,fun l3 n3=>?_⟩
 generalize hX:upd _ l3 _=G3
 obtain ⟨e3,g3⟩:=new_facts (TS:=TS) hX n3
 clear hX
 walk_at "rs"
 replace E:=E.trans e3 trivial
 replace rs:=rs.ev e3
 clear n3
 replace g3:G3 l3=some (.lst (([[("define" : Str),wf,wx],[("call" : Str),wf,wx]].map lineS).map V.str)):=by rw [g3,fs4_5 wf wx,fs4_4 wf wx]; simp only [List.map_cons,List.map_nil,ls1]
 walk_at "rd"
 refine ⟨by show 2≤sizeLine; decide +kernel,fun t4 n4=>?_⟩
 generalize hX:upd _ t4 _=G4
 obtain ⟨e4,g4⟩:=new_facts (TS:=TS) hX n4
 clear hX
 walk_at "rs"
 replace E:=E.trans e4 trivial
 replace rs:=rs.ev e4
 clear n4
 replace rs:=RowsL.app rs (.cons (r:=([[("define" : Str),wf,wx],[("call" : Str),wf,wx]],some 2)) g4 (ev_lst e4 g3 trivial) .nil)
 clear g4
 walk_at "rd"
 refine ⟨by show 2≤sizeLine; decide +kernel,fun o5 n5=>?_⟩
 generalize hX:upd _ o5 _=G5
 obtain ⟨e5,g5⟩:=new_facts (TS:=TS) hX n5
 clear hX
 walk_at "rs"
 replace E:=E.trans e5 trivial
 replace rs:=rs.ev e5
 clear n5
 have Fl:=F.len
 refine a_cat (TS:=TS) (ev_lst E hf trivial) g5 (by simp only [List.length_map,Fl]; exact le_line (Nat.le_of_ble_eq_true rfl)) fun lq Hq nq eq gq=>?_
 have rq:RowsQ Hq (.ref lq) (pr04_3 wa wb wx wf wg wp wq):=RowsQ.mk (gq.trans (by rw [show [V.ref t2,V.ref t4]=[t2,t4].map V.ref from rfl,← List.map_append]; first | done | rfl)) (((F.ev E).app rs).ev eq)
 replace E:=E.trans eq trivial
 walk_at "rd"
 exact ⟨_,_,_,_,rfl,E1.trans E trivial,(fun T e=>(hk0 T e).ev E),(fun T e=>(h20 T e).ev E),(fun T e=>(h30 T e).ev E),(fun R e=>by cases e; exact ⟨lq,rfl,rq.get⟩)⟩
theorem pr_s2 (TS:List (Addr × Str)) {f:Addr} (cdv:Value) (A:Around) (outer:List Env) (s:Shared) (Hs H:Hp) (Q:VK) (E0:XK) (wa wb wx wf wg wp wq:Str) (W4:Ws04 [wa,wb,wx,wf,wg,wp,wq]) (kk:∀ (r:Addr) (H':Hp),Ev TS [] Hs H'→RowsQ H' (.ref r) (pr04_16 wa wb wx wf wg wp wq)→Q (.ref r) H') (hr:Room 0 (A.deeper (envOfC "_law_procedures" (defScope s_procedures) s.heap.objs.size f cdv))):∃ t,PSs (cxOf CX0 P w K mg base ["_law_a","_law_b","_law_x","_law_f","_law_g","_law_p","_law_q","_law_known","_law_found","_law_two","_law_three"] "_law_procedures" (defScope s_procedures) f cdv A outer s H E0).nox ((defBody s_procedures).drop 2) t∧∀ σ H',InvPr TS Hs wa wb wx wf wg wp wq (some [[("define" : Str),wf,wx],[("take" : Str),wp,("spot" : Str),wx],[("end" : Str)]]) none none (some (pr04_1 wa wb wx wf wg wp wq)) σ H'→t { nx:=fun _ H'=>Q .non H',rt:=Q } σ H':=by
 have l_wa:=W4.len (z:=wa) (by simp)
 have l_wb:=W4.len (z:=wb) (by simp)
 have l_wx:=W4.len (z:=wx) (by simp)
 have l_wf:=W4.len (z:=wf) (by simp)
 have l_wg:=W4.len (z:=wg) (by simp)
 have l_wp:=W4.len (z:=wp) (by simp)
 have l_wq:=W4.len (z:=wq) (by simp)
 obtain ⟨tl,dl,hl⟩:=pr_s3 TS (f:=f) (P:=P) (w:=w) (K:=K) (mg:=mg) (base:=base) cdv A outer s Hs H Q E0 wa wb wx wf wg wp wq W4 kk hr
 refine ⟨_,(C8.pss_cut (ps_set (i:=8) sc_procedures.nd rfl (Or.inl rfl) (pe_op op_cat (pv 8) (pe_lst (pa_cons (pe_tup (pa_cons (pe_lst (pa_cons (pe_joined (PJ.cons pe_str (PJ.cons (pe_fmt (pv 3)) (PJ.cons pe_str (PJ.cons (pe_fmt (pv 2)) PJ.nil))))) (pa_cons (pe_joined (PJ.cons pe_str (PJ.cons (pe_fmt (pv 2)) (PJ.cons pe_str (PJ.cons (pe_fmt (pv 5)) PJ.nil))))) pa_nil))) (pa_cons pe_int pa_nil))) (pa_cons (pe_tup (pa_cons (pe_op op_cat (pv 7) (pe_lst (pa_cons (pe_joined (PJ.cons pe_str (PJ.cons (pe_fmt (pv 3)) (PJ.cons pe_str (PJ.cons (pe_fmt (pv 0)) PJ.nil))))) pa_nil))) (pa_cons pe_int pa_nil))) pa_nil))))) dl),?_⟩
 rintro σ H1 ⟨o7,o8,o9,o10,rfl,E1,hk0,h20,h30,hr0⟩
 obtain ⟨lhk,rfl,hk⟩:=id (hk0 _ rfl)
 obtain ⟨lf,rfl,ts0,hf,F⟩:=id (hr0 _ rfl)
 have E:Ev TS [] H1 H1:=Ev.refl _ _
 refine ⟨InvPr TS Hs wa wb wx wf wg wp wq (some [[("define" : Str),wf,wx],[("take" : Str),wp,("spot" : Str),wx],[("end" : Str)]]) none none (some (pr04_2 wa wb wx wf wg wp wq)),?_,hl⟩
 walk_at "rd"
 refine ⟨by decide +kernel,js_c (n:=20) (y:=wf) (by decide +kernel) (by omega) (by decide) (ht_v rfl (by omega)) fun q1b1=>js_c (y:=" ") q1b1 (by decide +kernel) (by decide) ht_c fun q1b2=>js_c (y:=wx) q1b2 (by omega) (by decide) (ht_v rfl (by omega)) fun q1b3=>?_⟩
 walk_at "rd"
 refine ⟨by decide +kernel,js_c (n:=20) (y:=wx) (by decide +kernel) (by omega) (by decide) (ht_v rfl (by omega)) fun q2c1=>js_c (y:=" ") q2c1 (by decide +kernel) (by decide) ht_c fun q2c2=>js_c (y:=wp) q2c2 (by omega) (by decide) (ht_v rfl (by omega)) fun q2c3=>?_⟩
 walk_at "rd"
 refine ⟨by show 2≤sizeLine; decide +kernel,fun l1 n1=>?_⟩
 generalize hX:upd _ l1 _=G1
 obtain ⟨e1,g1⟩:=new_facts (TS:=TS) hX n1
 clear hX
 walk_at "rs"
 replace E:=E.trans e1 trivial
 clear n1
 replace g1:G1 l1=some (.lst (([[("define" : Str),wf,wx],[("move" : Str),wx,wp]].map lineS).map V.str)):=by rw [g1,fs4_5 wf wx,fs4_8 wx wp]; simp only [List.map_cons,List.map_nil,ls1]
 walk_at "rd"
 refine ⟨by show 2≤sizeLine; decide +kernel,fun t2 n2=>?_⟩
 generalize hX:upd _ t2 _=G2
 obtain ⟨e2,g2⟩:=new_facts (TS:=TS) hX n2
 clear hX
 walk_at "rs"
 replace E:=E.trans e2 trivial
 clear n2
 have rs:RowsL G2 _ _:=.cons (r:=([[("define" : Str),wf,wx],[("move" : Str),wx,wp]],some 2)) g2 (ev_lst e2 g1 trivial) .nil
 clear g2
 walk_at "rd"
 refine ⟨by decide +kernel,js_c (n:=20) (y:=wf) (by decide +kernel) (by omega) (by decide) (ht_v rfl (by omega)) fun q3d1=>js_c (y:=" ") q3d1 (by decide +kernel) (by decide) ht_c fun q3d2=>js_c (y:=wa) q3d2 (by omega) (by decide) (ht_v rfl (by omega)) fun q3d3=>?_⟩
 walk_at "rd"
 refine ⟨by show 1≤sizeLine; decide +kernel,fun l3 n3=>?_⟩
 generalize hX:upd _ l3 _=G3
 obtain ⟨e3,g3⟩:=new_facts (TS:=TS) hX n3
 clear hX
 walk_at "rs"
 replace E:=E.trans e3 trivial
 replace rs:=rs.ev e3
 clear n3
 replace g3:G3 l3=some (.lst (([[("define" : Str),wf,wa]].map lineS).map V.str)):=by rw [g3,fs4_5 wf wa]; simp only [List.map_cons,List.map_nil,ls1]
 refine a_cat (TS:=TS) (ev_lst E hk trivial) g3 (by simp only [List.length_map]; exact le_line (Nat.le_of_ble_eq_true rfl)) fun l4 G4 n4 e4 g4=>?_
 replace E:=E.trans e4 trivial
 replace rs:=rs.ev e4
 clear n4
 replace g4:G4 l4=some (.lst (([[("define" : Str),wf,wx],[("take" : Str),wp,("spot" : Str),wx],[("end" : Str)],[("define" : Str),wf,wa]].map lineS).map V.str)):=by rw [g4,← List.map_append,← List.map_append]; rfl
 walk_at "rd"
 refine ⟨by show 2≤sizeLine; decide +kernel,fun t5 n5=>?_⟩
 generalize hX:upd _ t5 _=G5
 obtain ⟨e5,g5⟩:=new_facts (TS:=TS) hX n5
 clear hX
 walk_at "rs"
 replace E:=E.trans e5 trivial
 replace rs:=rs.ev e5
 clear n5
 replace rs:=RowsL.app rs (.cons (r:=([[("define" : Str),wf,wx],[("take" : Str),wp,("spot" : Str),wx],[("end" : Str)],[("define" : Str),wf,wa]],some 4)) g5 (ev_lst e5 g4 trivial) .nil)
 clear g5
 walk_at "rd"
 refine ⟨by show 2≤sizeLine; decide +kernel,fun o6 n6=>?_⟩
 generalize hX:upd _ o6 _=G6
 obtain ⟨e6,g6⟩:=new_facts (TS:=TS) hX n6
 clear hX
 walk_at "rs"
 replace E:=E.trans e6 trivial
 replace rs:=rs.ev e6
 clear n6
 have Fl:=F.len
 refine a_cat (TS:=TS) (ev_lst E hf trivial) g6 (by simp only [List.length_map,Fl]; exact le_line (Nat.le_of_ble_eq_true rfl)) fun lq Hq nq eq gq=>?_
 have rq:RowsQ Hq (.ref lq) (pr04_2 wa wb wx wf wg wp wq):=RowsQ.mk (gq.trans (by rw [show [V.ref t2,V.ref t5]=[t2,t5].map V.ref from rfl,← List.map_append]; first | done | rfl)) (((F.ev E).app rs).ev eq)
 replace E:=E.trans eq trivial
 walk_at "rd"
 exact ⟨_,_,_,_,rfl,E1.trans E trivial,(fun T e=>(hk0 T e).ev E),(fun T e=>(h20 T e).ev E),(fun T e=>(h30 T e).ev E),(fun R e=>by cases e; exact ⟨lq,rfl,rq.get⟩)⟩
theorem pr_s1 (TS:List (Addr × Str)) {f:Addr} (cdv:Value) (A:Around) (outer:List Env) (s:Shared) (Hs H:Hp) (Q:VK) (E0:XK) (wa wb wx wf wg wp wq:Str) (W4:Ws04 [wa,wb,wx,wf,wg,wp,wq]) (kk:∀ (r:Addr) (H':Hp),Ev TS [] Hs H'→RowsQ H' (.ref r) (pr04_16 wa wb wx wf wg wp wq)→Q (.ref r) H') (hr:Room 0 (A.deeper (envOfC "_law_procedures" (defScope s_procedures) s.heap.objs.size f cdv))):∃ t,PSs (cxOf CX0 P w K mg base ["_law_a","_law_b","_law_x","_law_f","_law_g","_law_p","_law_q","_law_known","_law_found","_law_two","_law_three"] "_law_procedures" (defScope s_procedures) f cdv A outer s H E0).nox ((defBody s_procedures).drop 1) t∧∀ σ H',InvPr TS Hs wa wb wx wf wg wp wq (some [[("define" : Str),wf,wx],[("take" : Str),wp,("spot" : Str),wx],[("end" : Str)]]) none none none σ H'→t { nx:=fun _ H'=>Q .non H',rt:=Q } σ H':=by
 have l_wa:=W4.len (z:=wa) (by simp)
 have l_wb:=W4.len (z:=wb) (by simp)
 have l_wx:=W4.len (z:=wx) (by simp)
 have l_wf:=W4.len (z:=wf) (by simp)
 have l_wg:=W4.len (z:=wg) (by simp)
 have l_wp:=W4.len (z:=wp) (by simp)
 have l_wq:=W4.len (z:=wq) (by simp)
 obtain ⟨tl,dl,hl⟩:=pr_s2 TS (f:=f) (P:=P) (w:=w) (K:=K) (mg:=mg) (base:=base) cdv A outer s Hs H Q E0 wa wb wx wf wg wp wq W4 kk hr
 refine ⟨_,(C8.pss_cut (ps_set (i:=8) sc_procedures.nd rfl (Or.inl rfl) (pe_lst (pa_cons (pe_tup (pa_cons (pv 7) (pa_cons pe_non pa_nil))) (pa_cons (pe_tup (pa_cons (pe_op op_cat (pv 7) (pe_lst (pa_cons (pe_joined (PJ.cons pe_str (PJ.cons (pe_fmt (pv 0)) (PJ.cons pe_str (PJ.cons (pe_fmt (pv 5)) PJ.nil))))) pa_nil))) (pa_cons pe_int pa_nil))) (pa_cons (pe_tup (pa_cons (pe_op op_cat (pv 7) (pe_lst (pa_cons (pe_joined (PJ.cons pe_str (PJ.cons (pe_fmt (pv 5)) (PJ.cons pe_str (PJ.cons (pe_fmt (pv 0)) PJ.nil))))) (pa_cons (pe_joined (PJ.cons pe_str (PJ.cons (pe_fmt (pv 1)) (PJ.cons pe_str (PJ.cons (pe_fmt (pv 5)) PJ.nil))))) pa_nil)))) (pa_cons pe_non pa_nil))) pa_nil))))) dl),?_⟩
 rintro σ H1 ⟨o7,o8,o9,o10,rfl,E1,hk0,h20,h30,hr0⟩
 obtain ⟨lhk,rfl,hk⟩:=id (hk0 _ rfl)
 have E:Ev TS [] H1 H1:=Ev.refl _ _
 refine ⟨InvPr TS Hs wa wb wx wf wg wp wq (some [[("define" : Str),wf,wx],[("take" : Str),wp,("spot" : Str),wx],[("end" : Str)]]) none none (some (pr04_1 wa wb wx wf wg wp wq)),?_,hl⟩
 walk_at "rd"
 refine ⟨by show 2≤sizeLine; decide +kernel,fun t1 n1=>?_⟩
 generalize hX:upd _ t1 _=G1
 obtain ⟨e1,g1⟩:=new_facts (TS:=TS) hX n1
 clear hX
 walk_at "rs"
 replace E:=E.trans e1 trivial
 clear n1
 have rs:RowsL G1 _ _:=.cons (r:=([[("define" : Str),wf,wx],[("take" : Str),wp,("spot" : Str),wx],[("end" : Str)]],none)) g1 (ev_lst E hk trivial) .nil
 clear g1
 walk_at "rd"
 refine ⟨by decide +kernel,js_c (n:=20) (y:=wa) (by decide +kernel) (by omega) (by decide) (ht_v rfl (by omega)) fun q1b1=>js_c (y:=" ") q1b1 (by decide +kernel) (by decide) ht_c fun q1b2=>js_c (y:=wp) q1b2 (by omega) (by decide) (ht_v rfl (by omega)) fun q1b3=>?_⟩
 walk_at "rd"
 refine ⟨by show 1≤sizeLine; decide +kernel,fun l2 n2=>?_⟩
 generalize hX:upd _ l2 _=G2
 obtain ⟨e2,g2⟩:=new_facts (TS:=TS) hX n2
 clear hX
 walk_at "rs"
 replace E:=E.trans e2 trivial
 replace rs:=rs.ev e2
 clear n2
 replace g2:G2 l2=some (.lst (([[("cut" : Str),wa,wp]].map lineS).map V.str)):=by rw [g2,fs4_9 wa wp]; simp only [List.map_cons,List.map_nil,ls1]
 refine a_cat (TS:=TS) (ev_lst E hk trivial) g2 (by simp only [List.length_map]; exact le_line (Nat.le_of_ble_eq_true rfl)) fun l3 G3 n3 e3 g3=>?_
 replace E:=E.trans e3 trivial
 replace rs:=rs.ev e3
 clear n3
 replace g3:G3 l3=some (.lst (([[("define" : Str),wf,wx],[("take" : Str),wp,("spot" : Str),wx],[("end" : Str)],[("cut" : Str),wa,wp]].map lineS).map V.str)):=by rw [g3,← List.map_append,← List.map_append]; rfl
 walk_at "rd"
 refine ⟨by show 2≤sizeLine; decide +kernel,fun t4 n4=>?_⟩
 generalize hX:upd _ t4 _=G4
 obtain ⟨e4,g4⟩:=new_facts (TS:=TS) hX n4
 clear hX
 walk_at "rs"
 replace E:=E.trans e4 trivial
 replace rs:=rs.ev e4
 clear n4
 replace rs:=RowsL.app rs (.cons (r:=([[("define" : Str),wf,wx],[("take" : Str),wp,("spot" : Str),wx],[("end" : Str)],[("cut" : Str),wa,wp]],some 4)) g4 (ev_lst e4 g3 trivial) .nil)
 clear g4
 walk_at "rd"
 refine ⟨by decide +kernel,js_c (n:=20) (y:=wp) (by decide +kernel) (by omega) (by decide) (ht_v rfl (by omega)) fun q2c1=>js_c (y:=" turn ") q2c1 (by decide +kernel) (by decide) ht_c fun q2c2=>js_c (y:=wa) q2c2 (by omega) (by decide) (ht_v rfl (by omega)) fun q2c3=>?_⟩
 walk_at "rd"
 refine ⟨by decide +kernel,js_c (n:=20) (y:=wb) (by decide +kernel) (by omega) (by decide) (ht_v rfl (by omega)) fun q3d1=>js_c (y:=" ") q3d1 (by decide +kernel) (by decide) ht_c fun q3d2=>js_c (y:=wp) q3d2 (by omega) (by decide) (ht_v rfl (by omega)) fun q3d3=>?_⟩
 walk_at "rd"
 refine ⟨by show 2≤sizeLine; decide +kernel,fun l5 n5=>?_⟩
 generalize hX:upd _ l5 _=G5
 obtain ⟨e5,g5⟩:=new_facts (TS:=TS) hX n5
 clear hX
 walk_at "rs"
 replace E:=E.trans e5 trivial
 replace rs:=rs.ev e5
 clear n5
 replace g5:G5 l5=some (.lst (([[("take" : Str),wp,("turn" : Str),wa],[("move" : Str),wb,wp]].map lineS).map V.str)):=by rw [g5,fs4_0 wp wa,fs4_8 wb wp]; simp only [List.map_cons,List.map_nil,ls1]
 refine a_cat (TS:=TS) (ev_lst E hk trivial) g5 (by simp only [List.length_map]; exact le_line (Nat.le_of_ble_eq_true rfl)) fun l6 G6 n6 e6 g6=>?_
 replace E:=E.trans e6 trivial
 replace rs:=rs.ev e6
 clear n6
 replace g6:G6 l6=some (.lst (([[("define" : Str),wf,wx],[("take" : Str),wp,("spot" : Str),wx],[("end" : Str)],[("take" : Str),wp,("turn" : Str),wa],[("move" : Str),wb,wp]].map lineS).map V.str)):=by rw [g6,← List.map_append,← List.map_append]; rfl
 walk_at "rd"
 refine ⟨by show 2≤sizeLine; decide +kernel,fun t7 n7=>?_⟩
 generalize hX:upd _ t7 _=G7
 obtain ⟨e7,g7⟩:=new_facts (TS:=TS) hX n7
 clear hX
 walk_at "rs"
 replace E:=E.trans e7 trivial
 replace rs:=rs.ev e7
 clear n7
 replace rs:=RowsL.app rs (.cons (r:=([[("define" : Str),wf,wx],[("take" : Str),wp,("spot" : Str),wx],[("end" : Str)],[("take" : Str),wp,("turn" : Str),wa],[("move" : Str),wb,wp]],none)) g7 (ev_lst e7 g6 trivial) .nil)
 clear g7
 walk_at "rd"
 refine ⟨by show 3≤sizeLine; decide +kernel,fun o8 n8=>?_⟩
 generalize hX:upd _ o8 _=G8
 obtain ⟨e8,g8⟩:=new_facts (TS:=TS) hX n8
 clear hX
 walk_at "rs"
 replace E:=E.trans e8 trivial
 replace rs:=rs.ev e8
 clear n8
 walk_at "rd"
 exact ⟨_,_,_,_,rfl,E1.trans E trivial,(fun T e=>(hk0 T e).ev E),(fun T e=>(h20 T e).ev E),(fun T e=>(h30 T e).ev E),(fun R e=>by cases e; exact ⟨_,rfl,[t1,t4,t7],g8,rs⟩)⟩
theorem pr_s0 (TS:List (Addr × Str)) {f:Addr} (cdv:Value) (A:Around) (outer:List Env) (s:Shared) (Hs H:Hp) (Q:VK) (E0:XK) (wa wb wx wf wg wp wq:Str) (W4:Ws04 [wa,wb,wx,wf,wg,wp,wq]) (kk:∀ (r:Addr) (H':Hp),Ev TS [] Hs H'→RowsQ H' (.ref r) (pr04_16 wa wb wx wf wg wp wq)→Q (.ref r) H') (hr:Room 0 (A.deeper (envOfC "_law_procedures" (defScope s_procedures) s.heap.objs.size f cdv))):∃ t,PSs (cxOf CX0 P w K mg base ["_law_a","_law_b","_law_x","_law_f","_law_g","_law_p","_law_q","_law_known","_law_found","_law_two","_law_three"] "_law_procedures" (defScope s_procedures) f cdv A outer s H E0).nox ((defBody s_procedures).drop 0) t∧∀ σ H',InvPr TS Hs wa wb wx wf wg wp wq none none none none σ H'→t { nx:=fun _ H'=>Q .non H',rt:=Q } σ H':=by
 have l_wa:=W4.len (z:=wa) (by simp)
 have l_wb:=W4.len (z:=wb) (by simp)
 have l_wx:=W4.len (z:=wx) (by simp)
 have l_wf:=W4.len (z:=wf) (by simp)
 have l_wg:=W4.len (z:=wg) (by simp)
 have l_wp:=W4.len (z:=wp) (by simp)
 have l_wq:=W4.len (z:=wq) (by simp)
 obtain ⟨tl,dl,hl⟩:=pr_s1 TS (f:=f) (P:=P) (w:=w) (K:=K) (mg:=mg) (base:=base) cdv A outer s Hs H Q E0 wa wb wx wf wg wp wq W4 kk hr
 refine ⟨_,(C8.pss_cut (ps_set (i:=7) sc_procedures.nd rfl (Or.inl rfl) (pe_lst (pa_cons (pe_joined (PJ.cons pe_str (PJ.cons (pe_fmt (pv 3)) (PJ.cons pe_str (PJ.cons (pe_fmt (pv 2)) PJ.nil))))) (pa_cons (pe_joined (PJ.cons pe_str (PJ.cons (pe_fmt (pv 5)) (PJ.cons pe_str (PJ.cons (pe_fmt (pv 2)) PJ.nil))))) (pa_cons pe_str pa_nil))))) dl),?_⟩
 rintro σ H1 ⟨o7,o8,o9,o10,rfl,E1,hk0,h20,h30,hr0⟩
 have E:Ev TS [] H1 H1:=Ev.refl _ _
 refine ⟨InvPr TS Hs wa wb wx wf wg wp wq (some [[("define" : Str),wf,wx],[("take" : Str),wp,("spot" : Str),wx],[("end" : Str)]]) none none none,?_,hl⟩
 walk_at "rd"
 refine ⟨by decide +kernel,js_c (n:=20) (y:=wf) (by decide +kernel) (by omega) (by decide) (ht_v rfl (by omega)) fun q1b1=>js_c (y:=" ") q1b1 (by decide +kernel) (by decide) ht_c fun q1b2=>js_c (y:=wx) q1b2 (by omega) (by decide) (ht_v rfl (by omega)) fun q1b3=>?_⟩
 walk_at "rd"
 refine ⟨by decide +kernel,js_c (n:=20) (y:=wp) (by decide +kernel) (by omega) (by decide) (ht_v rfl (by omega)) fun q2c1=>js_c (y:=" spot ") q2c1 (by decide +kernel) (by decide) ht_c fun q2c2=>js_c (y:=wx) q2c2 (by omega) (by decide) (ht_v rfl (by omega)) fun q2c3=>?_⟩
 walk_at "rd"
 refine ⟨by show 3≤sizeLine; decide +kernel,fun l1 n1=>?_⟩
 generalize hX:upd _ l1 _=G1
 obtain ⟨e1,g1⟩:=new_facts (TS:=TS) hX n1
 clear hX
 walk_at "rs"
 replace E:=E.trans e1 trivial
 clear n1
 replace g1:G1 l1=some (.lst (([[("define" : Str),wf,wx],[("take" : Str),wp,("spot" : Str),wx],[("end" : Str)]].map lineS).map V.str)):=by rw [g1,fs4_5 wf wx,fs4_10 wp wx]; simp only [List.map_cons,List.map_nil,ls1]
 walk_at "rd"
 exact ⟨_,_,_,_,rfl,E1.trans E trivial,(fun T e=>by cases e; exact ⟨_,rfl,g1⟩),(fun T e=>(h20 T e).ev E),(fun T e=>(h30 T e).ev E),fun R e=>(hr0 R e).ev E⟩
theorem ok_procedures {TS:List (Addr × Str)} {f:Addr} {fd:FuncData} (F:Fun K "_law_procedures" "_law_procedures" s_procedures f fd):FnR P w K mg base CX0 1 f (spProcs4 TS):=by
 refine fnr F sc_procedures (fun vs H Q E h=>?_) (fun _ _ _ _ _ _ us hl=>match us,hl with | [_,_,_,_,_,_,_],_=>rfl) (fun cdv A outer s H vs Q E hr h=>?_)
 ·obtain ⟨a,b,x,f,g,p,q,rfl,_⟩:=h
  rfl
 ·obtain ⟨wa,wb,wx,wf,wg,wp,wq,rfl,W4,k⟩:=h
  obtain ⟨t,d,h⟩:=pr_s0 TS (f:=f) cdv A outer s H H Q E wa wb wx wf wg wp wq W4 k hr
  refine ⟨_,d,?_⟩
  exact h _ _ ⟨none,none,none,none,rfl,Ev.refl _ _,(fun _ e=>by cases e),(fun _ e=>by cases e),(fun _ e=>by cases e),(fun _ e=>by cases e)⟩
end
theorem fl4_sp (x0 x1:Str):Str.empty ++ "take " ++ x0 ++ " spot " ++ x1=lineS [("take" : Str),x0,("spot" : Str),x1]:=by
 refine str_ext ?_
 show _=(Txt.join sp1 [("take" : Str),x0,("spot" : Str),x1]).cps.toList
 simp only [tj1,tj2,app_cps,List.append_assoc]
 kernel_rfl
theorem fl4_tu (x0 x1:Str):Str.empty ++ "take " ++ x0 ++ " turn " ++ x1=lineS [("take" : Str),x0,("turn" : Str),x1]:=by
 refine str_ext ?_
 show _=(Txt.join sp1 [("take" : Str),x0,("turn" : Str),x1]).cps.toList
 simp only [tj1,tj2,app_cps,List.append_assoc]
 kernel_rfl
theorem fl4_ke (x0 x1 x2:Str):Str.empty ++ "take " ++ x0 ++ " keep " ++ x1 ++ " = " ++ x2=lineS [("take" : Str),x0,("keep" : Str),x1,("=" : Str),x2]:=by
 refine str_ext ?_
 show _=(Txt.join sp1 [("take" : Str),x0,("keep" : Str),x1,("=" : Str),x2]).cps.toList
 simp only [tj1,tj2,app_cps,List.append_assoc]
 kernel_rfl
theorem fl4_se (x0 x1 x2:Str):Str.empty ++ "set " ++ x0 ++ " " ++ x1 ++ " " ++ x2=lineS [("set" : Str),x0,x1,x2]:=by
 refine str_ext ?_
 show _=(Txt.join sp1 [("set" : Str),x0,x1,x2]).cps.toList
 simp only [tj1,tj2,app_cps,List.append_assoc]
 kernel_rfl
theorem fl4_sg (x0 x1 x2:Str):Str.empty ++ "take " ++ x0 ++ " keep " ++ x1 ++ " " ++ x2 ++ " 7"=lineS [("take" : Str),x0,("keep" : Str),x1,x2,("7" : Str)]:=by
 refine str_ext ?_
 show _=(Txt.join sp1 [("take" : Str),x0,("keep" : Str),x1,x2,("7" : Str)]).cps.toList
 simp only [tj1,tj2,app_cps,List.append_assoc]
 kernel_rfl
theorem fl4_5 (x0 x1:Str):Str.empty ++ "take " ++ x0 ++ " order " ++ x1 ++ " down down"=lineS [("take" : Str),x0,("order" : Str),x1,("down" : Str),("down" : Str)]:=by
 refine str_ext ?_
 show _=(Txt.join sp1 [("take" : Str),x0,("order" : Str),x1,("down" : Str),("down" : Str)]).cps.toList
 simp only [tj1,tj2,app_cps,List.append_assoc]
 kernel_rfl
theorem fl4_6 (x0 x1 x2:Str):Str.empty ++ "take " ++ x0 ++ " turn " ++ x1 ++ " " ++ x2=lineS [("take" : Str),x0,("turn" : Str),x1,x2]:=by
 refine str_ext ?_
 show _=(Txt.join sp1 [("take" : Str),x0,("turn" : Str),x1,x2]).cps.toList
 simp only [tj1,tj2,app_cps,List.append_assoc]
 kernel_rfl
theorem fl4_7 (x0 x1:Str):Str.empty ++ "set " ++ x0 ++ " " ++ x1 ++ " 5 6"=lineS [("set" : Str),x0,x1,("5" : Str),("6" : Str)]:=by
 refine str_ext ?_
 show _=(Txt.join sp1 [("set" : Str),x0,x1,("5" : Str),("6" : Str)]).cps.toList
 simp only [tj1,tj2,app_cps,List.append_assoc]
 kernel_rfl
theorem fl4_8 (x0 x1 x2:Str):Str.empty ++ "pour " ++ x0 ++ " into " ++ x1 ++ " " ++ x2=lineS [("pour" : Str),x0,("into" : Str),x1,x2]:=by
 refine str_ext ?_
 show _=(Txt.join sp1 [("pour" : Str),x0,("into" : Str),x1,x2]).cps.toList
 simp only [tj1,tj2,app_cps,List.append_assoc]
 kernel_rfl
theorem fl4_9 (x0 x1:Str):Str.empty ++ "pour " ++ x0 ++ " into " ++ x1=lineS [("pour" : Str),x0,("into" : Str),x1]:=by
 refine str_ext ?_
 show _=(Txt.join sp1 [("pour" : Str),x0,("into" : Str),x1]).cps.toList
 simp only [tj1,tj2,app_cps,List.append_assoc]
 kernel_rfl
theorem fl4_10 (x0 x1 x2:Str):Str.empty ++ "move " ++ x0 ++ " " ++ x1 ++ " " ++ x2=lineS [("move" : Str),x0,x1,x2]:=by
 refine str_ext ?_
 show _=(Txt.join sp1 [("move" : Str),x0,x1,x2]).cps.toList
 simp only [tj1,tj2,app_cps,List.append_assoc]
 kernel_rfl
theorem fl4_11 (x0 x1:Str):Str.empty ++ "cut " ++ x0 ++ " " ++ x1 ++ " 5"=lineS [("cut" : Str),x0,x1,("5" : Str)]:=by
 refine str_ext ?_
 show _=(Txt.join sp1 [("cut" : Str),x0,x1,("5" : Str)]).cps.toList
 simp only [tj1,tj2,app_cps,List.append_assoc]
 kernel_rfl
theorem fl4_12 (x0 x1:Str):Str.empty ++ "set " ++ x0 ++ " " ++ x1=lineS [("set" : Str),x0,x1]:=by
 refine str_ext ?_
 show _=(Txt.join sp1 [("set" : Str),x0,x1]).cps.toList
 simp only [tj1,tj2,app_cps,List.append_assoc]
 kernel_rfl
theorem fl4_13 (x0 x1:Str):Str.empty ++ "move " ++ x0 ++ " " ++ x1=lineS [("move" : Str),x0,x1]:=by
 refine str_ext ?_
 show _=(Txt.join sp1 [("move" : Str),x0,x1]).cps.toList
 simp only [tj1,tj2,app_cps,List.append_assoc]
 kernel_rfl
theorem fl4_14 (x0 x1:Str):Str.empty ++ "take " ++ x0 ++ " order " ++ x1=lineS [("take" : Str),x0,("order" : Str),x1]:=by
 refine str_ext ?_
 show _=(Txt.join sp1 [("take" : Str),x0,("order" : Str),x1]).cps.toList
 simp only [tj1,tj2,app_cps,List.append_assoc]
 kernel_rfl
theorem fl4_15 (x0 x1:Str):Str.empty ++ "cut " ++ x0 ++ " " ++ x1=lineS [("cut" : Str),x0,x1]:=by
 refine str_ext ?_
 show _=(Txt.join sp1 [("cut" : Str),x0,x1]).cps.toList
 simp only [tj1,tj2,app_cps,List.append_assoc]
 kernel_rfl
theorem fl4_16 (x0 x1:Str):Str.empty ++ "take " ++ x0 ++ " spot " ++ x1 ++ " != 0"=lineS [("take" : Str),x0,("spot" : Str),x1,("!=" : Str),("0" : Str)]:=by
 refine str_ext ?_
 show _=(Txt.join sp1 [("take" : Str),x0,("spot" : Str),x1,("!=" : Str),("0" : Str)]).cps.toList
 simp only [tj1,tj2,app_cps,List.append_assoc]
 kernel_rfl
theorem fl4_17 (x0 x1:Str):Str.empty ++ "set " ++ x0 ++ " " ++ x1 ++ " 0"=lineS [("set" : Str),x0,x1,("0" : Str)]:=by
 refine str_ext ?_
 show _=(Txt.join sp1 [("set" : Str),x0,x1,("0" : Str)]).cps.toList
 simp only [tj1,tj2,app_cps,List.append_assoc]
 kernel_rfl
theorem fl4_18 (x0 x1:Str):Str.empty ++ "take " ++ x0 ++ " new " ++ x1 ++ " any"=lineS [("take" : Str),x0,("new" : Str),x1,("any" : Str)]:=by
 refine str_ext ?_
 show _=(Txt.join sp1 [("take" : Str),x0,("new" : Str),x1,("any" : Str)]).cps.toList
 simp only [tj1,tj2,app_cps,List.append_assoc]
 kernel_rfl
theorem fl4_19 (x0 x1:Str):Str.empty ++ "set " ++ x0 ++ " " ++ x1 ++ " 5"=lineS [("set" : Str),x0,x1,("5" : Str)]:=by
 refine str_ext ?_
 show _=(Txt.join sp1 [("set" : Str),x0,x1,("5" : Str)]).cps.toList
 simp only [tj1,tj2,app_cps,List.append_assoc]
 kernel_rfl
def W4L:List (Str × Bool):=[("0",true),("00",false),("99999999999999999999",true),("100000000000000000000",false),("10",true)]
def dd4 (ok:Bool) (n:Nat):Option Nat:=if ok=true then none else some n
def pw4 (wa wp:Str) (r:Str × Bool):List R04:=[([[("take" : Str),wp,("keep" : Str),wa,("=" : Str),r.1]],dd4 r.2 1),([[("take" : Str),wp,("spot" : Str),wa],[("set" : Str),wa,wp,r.1]],dd4 r.2 2)]
def S4L:List Str:=["<",">=","=","!="]
def sg4 (wa wp z:Str):R04:=([[("take" : Str),wp,("keep" : Str),wa,z,("7" : Str)]],none)
theorem pl7_eq (wa wb wp wq:Str):pl04_6 wa wb wp wq++W4L.flatMap (pw4 wa wp)=pl04_7 wa wb wp wq:=rfl
theorem pl11_eq (wa wb wp wq:Str):pl04_10 wa wb wp wq++S4L.map (sg4 wa wp)=pl04_11 wa wb wp wq:=rfl
theorem w4_len:∀ r∈W4L,r.1.length≤30:=by decide +kernel
theorem s4_len:∀ z∈S4L,z.length≤30:=by decide +kernel
def spPlans4 (TS:List (Addr × Str)):Sp:=fun vs H Q _=>∃ (a b p q:Str),vs=[.str a,.str b,.str p,.str q]∧Ws04 [a,b,p,q]∧∀ (r:Addr) (H':Hp),Ev TS [] H H'→RowsQ H' (.ref r) (pl04_11 a b p q)→Q (.ref r) H'
section
variable {P:Program} {w:World} {K:PySem.W.Frag} {mg:Str→Option Value} {base:Heap}
theorem sc_plans:FnScope ["_law_a","_law_b","_law_p","_law_q","_law_spot","_law_turn","_law_found","_law_word","_law_is_right","_law_sign"] ["_law_a","_law_b","_law_p","_law_q"] (defScope s_plans):=⟨rfl,rfl,rfl,by decide +kernel,rfl,by decide +kernel,by decide +kernel⟩
theorem pl_s11 (TS:List (Addr × Str)) {f:Addr} (cdv:Value) (A:Around) (outer:List Env) (s:Shared) (Hs H:Hp) (Q:VK) (E0:XK) (wa wb wp wq:Str) (W4:Ws04 [wa,wb,wp,wq]) (kk:∀ (r:Addr) (H':Hp),Ev TS [] Hs H'→RowsQ H' (.ref r) (pl04_11 wa wb wp wq)→Q (.ref r) H') (hr:Room 0 (A.deeper (envOfC "_law_plans" (defScope s_plans) s.heap.objs.size f cdv))):∃ t,PSs (cxOf CX0 P w K mg base ["_law_a","_law_b","_law_p","_law_q","_law_spot","_law_turn","_law_found","_law_word","_law_is_right","_law_sign"] "_law_plans" (defScope s_plans) f cdv A outer s H E0).nox ((defBody s_plans).drop 11) t∧∀ σ H',InvPl TS Hs wa wb wp wq true (some (pl04_10 wa wb wp wq)) σ H'→t { nx:=fun _ H'=>Q .non H',rt:=Q } σ H':=by
 have l_wa:=W4.len (z:=wa) (by simp)
 have l_wb:=W4.len (z:=wb) (by simp)
 have l_wp:=W4.len (z:=wp) (by simp)
 have l_wq:=W4.len (z:=wq) (by simp)
 refine ⟨_,(pss_one (ps_ret (pe_op op_cat (pv 6) (pe_lc (own:=[("_law_sign",9)]) (by rfl) sc_plans.nd (pi_tup (pe_tup (pa_cons pe_str (pa_cons pe_str (pa_cons pe_str (pa_cons pe_str pa_nil)))))) (blkOk_by (own:=[("_law_sign",9)]) (N:=["_law_a","_law_b","_law_p","_law_q","_law_spot","_law_turn","_law_found","_law_word","_law_is_right","_law_sign"]) (sc:=defScope s_plans) (by first | decide +kernel | kernel_rfl)) (fun _ _ _ _ _=>(pg_name (i:=9) sc_plans.nd rfl (Or.inl rfl))) (fun _ _ _ _ _=>by exact pts_nil) (fun _ _ _ _ _=>by exact (pe_tup (pa_cons (pe_lst (pa_cons (pe_joined (PJ.cons pe_str (PJ.cons (pe_fmt (pv 2)) (PJ.cons pe_str (PJ.cons (pe_fmt (pv 0)) (PJ.cons pe_str (PJ.cons (pe_fmt (pv 9)) (PJ.cons pe_str PJ.nil)))))))) pa_nil)) (pa_cons pe_non pa_nil)))))))),?_⟩
 rintro σ H1 ⟨o4,o5,o6,o7,o8,o9,rfl,E1,hs0,hr0⟩
 obtain ⟨rfl,rfl⟩:=hs0 rfl
 obtain ⟨lf,rfl,ts0,hf,F⟩:=id (hr0 _ rfl)
 have E:Ev TS [] H1 H1:=Ev.refl _ _
 walk_at "rd"
 refine ⟨by show 4≤sizeLine; decide +kernel,fun t1 n1=>?_⟩
 generalize hX:upd _ t1 _=G1
 obtain ⟨e1,g1⟩:=new_facts (TS:=TS) hX n1
 clear hX
 walk_at "rs"
 replace E:=E.trans e1 trivial
 walk_at "rd"
 refine ⟨⟨_,SqT.of g1⟩,?_⟩
 refine fun D hD=>lc_ev (TS:=TS) (walk_tup (xs:=S4L.map V.str)) hD (fun i acc H'=>Ev TS [] G1 H'∧∃ us:List Addr,acc=us.map V.ref∧RowsL H' us ((S4L.take i).map (sg4 wa wp))) (fun H6 e6 h6=>⟨e6,[],rfl,.nil⟩) (fun i acc H' _ hI _=>SqT.of (ev_tup hI.1 g1)) ?_ ?_
 ·rintro i y acc Hz H6 hi ⟨e6,us,rfl,F6⟩ hD6 ⟨rfl,hy⟩
  have hy:(S4L.map V.str)[i]? = some y:=hy
  rw [List.getElem?_map] at hy
  obtain ⟨z,hz,rfl⟩:=Option.map_eq_some_iff.mp hy
  have zl:=s4_len z (List.mem_of_getElem? hz)
  have nd:NA G1 D:=.of hD
  have Fl:=F6.len
  have i4:i < 4:=hi
  rw [List.length_map,List.length_take] at Fl
  have tk:S4L.take (i+1)=S4L.take i++[z]:=by
   rw [List.take_add_one,hz]
   rfl
  walk_at "rd"
  refine ⟨by decide +kernel,js_c (n:=20) (y:=wp) (by decide +kernel) (by omega) (by decide) (ht_v rfl (by omega)) fun q1a1=>js_c (y:=" keep ") q1a1 (by decide +kernel) (by decide) ht_c fun q1a2=>js_c (y:=wa) q1a2 (by omega) (by decide) (ht_v rfl (by omega)) fun q1a3=>js_c (y:=" ") q1a3 (by decide +kernel) (by decide) ht_c fun q1a4=>js_c (y:=z) q1a4 (by omega) (by decide) (ht_v rfl (by omega)) fun q1a5=>js_c (y:=" 7") q1a5 (by decide +kernel) (by decide) ht_c fun q1a6=>?_⟩
  walk_at "rd"
  refine ⟨by show 1≤sizeLine; decide +kernel,fun l1 n2=>?_⟩
  generalize hX:upd _ l1 _=J1
  obtain ⟨e2,g2⟩:=new_facts (TS:=TS) hX n2
  clear hX
  walk_at "rs"
  replace g2:J1 l1=some (.lst (([[("take" : Str),wp,("keep" : Str),wa,z,("7" : Str)]].map lineS).map V.str)):=by rw [g2,fl4_sg wp wa z]; simp only [List.map_cons,List.map_nil]
  walk_at "rd"
  refine ⟨by show 2≤sizeLine; decide +kernel,fun u2 n3=>?_⟩
  generalize hX:upd _ u2 _=J2
  obtain ⟨e3,g3⟩:=new_facts (TS:=TS) hX n3
  clear hX
  walk_at "rs"
  have rs:RowsL J2 [u2] [sg4 wa wp z]:=.cons g3 (ev_lst e3 g2 trivial) .nil
  have hD8:=ev_lst (e2.trans e3 trivial) hD6 trivial
  refine lc_put (TS:=TS) hD8 (by rw [List.length_map]; exact lt_line (by omega)) fun J3 e4 h4=>?_
  refine ⟨((e6.trans e2 trivial).trans e3 trivial).trans e4 ⟨.inr nd,trivial⟩,us++[u2],by rw [List.map_append]; rfl,?_⟩
  rw [tk,List.map_append]
  have key:=((F6.ev e2).ev e3).app rs
  exact key.evD e4 hD8 (fun r hr=>by obtain ⟨z,_,rfl⟩:=List.mem_map.mp (show r∈(S4L.take i++[z]).map (sg4 wa wp) by rw [List.map_append]; exact hr); exact List.cons_ne_nil _ _)
 rintro acc H6 ⟨e6,us,rfl,F6⟩ hD6
 have Fl:=F.len
 have F6l:=F6.len
 replace E:=E.trans e6 trivial
 refine a_cat (TS:=TS) (ev_lst E hf trivial) hD6 (by rw [List.length_map,List.length_map,Fl,F6l]; exact le_line (Nat.le_of_ble_eq_true rfl)) fun lq Hq nq eq gq=>?_
 have rq:RowsQ Hq (.ref lq) (pl04_11 wa wb wp wq):=by
  rw [← pl11_eq]
  exact RowsQ.mk (gq.trans (by rw [← List.map_append])) (((F.ev E).app F6).ev eq)
 exact kk lq Hq (E1.trans (E.trans eq trivial) trivial) rq
theorem pl_s10 (TS:List (Addr × Str)) {f:Addr} (cdv:Value) (A:Around) (outer:List Env) (s:Shared) (Hs H:Hp) (Q:VK) (E0:XK) (wa wb wp wq:Str) (W4:Ws04 [wa,wb,wp,wq]) (kk:∀ (r:Addr) (H':Hp),Ev TS [] Hs H'→RowsQ H' (.ref r) (pl04_11 wa wb wp wq)→Q (.ref r) H') (hr:Room 0 (A.deeper (envOfC "_law_plans" (defScope s_plans) s.heap.objs.size f cdv))):∃ t,PSs (cxOf CX0 P w K mg base ["_law_a","_law_b","_law_p","_law_q","_law_spot","_law_turn","_law_found","_law_word","_law_is_right","_law_sign"] "_law_plans" (defScope s_plans) f cdv A outer s H E0).nox ((defBody s_plans).drop 10) t∧∀ σ H',InvPl TS Hs wa wb wp wq true (some (pl04_9 wa wb wp wq)) σ H'→t { nx:=fun _ H'=>Q .non H',rt:=Q } σ H':=by
 have l_wa:=W4.len (z:=wa) (by simp)
 have l_wb:=W4.len (z:=wb) (by simp)
 have l_wp:=W4.len (z:=wp) (by simp)
 have l_wq:=W4.len (z:=wq) (by simp)
 obtain ⟨tl,dl,hl⟩:=pl_s11 TS (f:=f) (P:=P) (w:=w) (K:=K) (mg:=mg) (base:=base) cdv A outer s Hs H Q E0 wa wb wp wq W4 kk hr
 refine ⟨_,(C8.pss_cut (ps_set (i:=6) sc_plans.nd rfl (Or.inl rfl) (pe_op op_cat (pv 6) (pe_lst (pa_cons (pe_tup (pa_cons (pe_lst (pa_cons (pe_joined (PJ.cons pe_str (PJ.cons (pe_fmt (pv 2)) (PJ.cons pe_str (PJ.cons (pe_fmt (pv 0)) (PJ.cons pe_str PJ.nil)))))) pa_nil)) (pa_cons pe_int pa_nil))) (pa_cons (pe_tup (pa_cons (pe_lst (pa_cons (pe_joined (PJ.cons pe_str (PJ.cons (pe_fmt (pv 2)) (PJ.cons pe_str (PJ.cons (pe_fmt (pv 0)) (PJ.cons pe_str (PJ.cons (pe_fmt (pv 1)) PJ.nil))))))) pa_nil)) (pa_cons pe_int pa_nil))) pa_nil))))) dl),?_⟩
 rintro σ H1 ⟨o4,o5,o6,o7,o8,o9,rfl,E1,hs0,hr0⟩
 obtain ⟨rfl,rfl⟩:=hs0 rfl
 obtain ⟨lf,rfl,ts0,hf,F⟩:=id (hr0 _ rfl)
 have E:Ev TS [] H1 H1:=Ev.refl _ _
 refine ⟨InvPl TS Hs wa wb wp wq true (some (pl04_10 wa wb wp wq)),?_,hl⟩
 walk_at "rd"
 refine ⟨by decide +kernel,js_c (n:=20) (y:=wp) (by decide +kernel) (by omega) (by decide) (ht_v rfl (by omega)) fun q1b1=>js_c (y:=" order ") q1b1 (by decide +kernel) (by decide) ht_c fun q1b2=>js_c (y:=wa) q1b2 (by omega) (by decide) (ht_v rfl (by omega)) fun q1b3=>js_c (y:=" down down") q1b3 (by decide +kernel) (by decide) ht_c fun q1b4=>?_⟩
 walk_at "rd"
 refine ⟨by show 1≤sizeLine; decide +kernel,fun l1 n1=>?_⟩
 generalize hX:upd _ l1 _=G1
 obtain ⟨e1,g1⟩:=new_facts (TS:=TS) hX n1
 clear hX
 walk_at "rs"
 replace E:=E.trans e1 trivial
 clear n1
 replace g1:G1 l1=some (.lst (([[("take" : Str),wp,("order" : Str),wa,("down" : Str),("down" : Str)]].map lineS).map V.str)):=by rw [g1,fl4_5 wp wa]; simp only [List.map_cons,List.map_nil,ls1]
 walk_at "rd"
 refine ⟨by show 2≤sizeLine; decide +kernel,fun t2 n2=>?_⟩
 generalize hX:upd _ t2 _=G2
 obtain ⟨e2,g2⟩:=new_facts (TS:=TS) hX n2
 clear hX
 walk_at "rs"
 replace E:=E.trans e2 trivial
 clear n2
 have rs:RowsL G2 _ _:=.cons (r:=([[("take" : Str),wp,("order" : Str),wa,("down" : Str),("down" : Str)]],some 1)) g2 (ev_lst e2 g1 trivial) .nil
 clear g2
 walk_at "rd"
 refine ⟨by decide +kernel,js_c (n:=20) (y:=wp) (by decide +kernel) (by omega) (by decide) (ht_v rfl (by omega)) fun q2c1=>js_c (y:=" turn ") q2c1 (by decide +kernel) (by decide) ht_c fun q2c2=>js_c (y:=wa) q2c2 (by omega) (by decide) (ht_v rfl (by omega)) fun q2c3=>js_c (y:=" ") q2c3 (by decide +kernel) (by decide) ht_c fun q2c4=>js_c (y:=wb) q2c4 (by omega) (by decide) (ht_v rfl (by omega)) fun q2c5=>?_⟩
 walk_at "rd"
 refine ⟨by show 1≤sizeLine; decide +kernel,fun l3 n3=>?_⟩
 generalize hX:upd _ l3 _=G3
 obtain ⟨e3,g3⟩:=new_facts (TS:=TS) hX n3
 clear hX
 walk_at "rs"
 replace E:=E.trans e3 trivial
 replace rs:=rs.ev e3
 clear n3
 replace g3:G3 l3=some (.lst (([[("take" : Str),wp,("turn" : Str),wa,wb]].map lineS).map V.str)):=by rw [g3,fl4_6 wp wa wb]; simp only [List.map_cons,List.map_nil,ls1]
 walk_at "rd"
 refine ⟨by show 2≤sizeLine; decide +kernel,fun t4 n4=>?_⟩
 generalize hX:upd _ t4 _=G4
 obtain ⟨e4,g4⟩:=new_facts (TS:=TS) hX n4
 clear hX
 walk_at "rs"
 replace E:=E.trans e4 trivial
 replace rs:=rs.ev e4
 clear n4
 replace rs:=RowsL.app rs (.cons (r:=([[("take" : Str),wp,("turn" : Str),wa,wb]],some 1)) g4 (ev_lst e4 g3 trivial) .nil)
 clear g4
 walk_at "rd"
 refine ⟨by show 2≤sizeLine; decide +kernel,fun o5 n5=>?_⟩
 generalize hX:upd _ o5 _=G5
 obtain ⟨e5,g5⟩:=new_facts (TS:=TS) hX n5
 clear hX
 walk_at "rs"
 replace E:=E.trans e5 trivial
 replace rs:=rs.ev e5
 clear n5
 have Fl:=F.len
 refine a_cat (TS:=TS) (ev_lst E hf trivial) g5 (by simp only [List.length_map,Fl]; exact le_line (Nat.le_of_ble_eq_true rfl)) fun lq Hq nq eq gq=>?_
 have rq:RowsQ Hq (.ref lq) (pl04_10 wa wb wp wq):=RowsQ.mk (gq.trans (by rw [show [V.ref t2,V.ref t4]=[t2,t4].map V.ref from rfl,← List.map_append]; first | done | rfl)) (((F.ev E).app rs).ev eq)
 replace E:=E.trans eq trivial
 walk_at "rd"
 exact ⟨_,_,_,_,_,_,rfl,E1.trans E trivial,(fun _=>⟨rfl,rfl⟩),(fun R e=>by cases e; exact ⟨lq,rfl,rq.get⟩)⟩
theorem pl_s9 (TS:List (Addr × Str)) {f:Addr} (cdv:Value) (A:Around) (outer:List Env) (s:Shared) (Hs H:Hp) (Q:VK) (E0:XK) (wa wb wp wq:Str) (W4:Ws04 [wa,wb,wp,wq]) (kk:∀ (r:Addr) (H':Hp),Ev TS [] Hs H'→RowsQ H' (.ref r) (pl04_11 wa wb wp wq)→Q (.ref r) H') (hr:Room 0 (A.deeper (envOfC "_law_plans" (defScope s_plans) s.heap.objs.size f cdv))):∃ t,PSs (cxOf CX0 P w K mg base ["_law_a","_law_b","_law_p","_law_q","_law_spot","_law_turn","_law_found","_law_word","_law_is_right","_law_sign"] "_law_plans" (defScope s_plans) f cdv A outer s H E0).nox ((defBody s_plans).drop 9) t∧∀ σ H',InvPl TS Hs wa wb wp wq true (some (pl04_8 wa wb wp wq)) σ H'→t { nx:=fun _ H'=>Q .non H',rt:=Q } σ H':=by
 have l_wa:=W4.len (z:=wa) (by simp)
 have l_wb:=W4.len (z:=wb) (by simp)
 have l_wp:=W4.len (z:=wp) (by simp)
 have l_wq:=W4.len (z:=wq) (by simp)
 obtain ⟨tl,dl,hl⟩:=pl_s10 TS (f:=f) (P:=P) (w:=w) (K:=K) (mg:=mg) (base:=base) cdv A outer s Hs H Q E0 wa wb wp wq W4 kk hr
 refine ⟨_,(C8.pss_cut (ps_set (i:=6) sc_plans.nd rfl (Or.inl rfl) (pe_op op_cat (pv 6) (pe_lst (pa_cons (pe_tup (pa_cons (pe_lst (pa_cons (pv 4) (pa_cons (pe_joined (PJ.cons pe_str (PJ.cons (pe_fmt (pv 0)) (PJ.cons pe_str (PJ.cons (pe_fmt (pv 2)) (PJ.cons pe_str PJ.nil)))))) pa_nil))) (pa_cons pe_int pa_nil))) (pa_cons (pe_tup (pa_cons (pe_lst (pa_cons (pe_joined (PJ.cons pe_str (PJ.cons (pe_fmt (pv 0)) (PJ.cons pe_str (PJ.cons (pe_fmt (pv 1)) (PJ.cons pe_str (PJ.cons (pe_fmt (pv 1)) PJ.nil))))))) pa_nil)) (pa_cons pe_int pa_nil))) (pa_cons (pe_tup (pa_cons (pe_lst (pa_cons (pe_joined (PJ.cons pe_str (PJ.cons (pe_fmt (pv 0)) (PJ.cons pe_str (PJ.cons (pe_fmt (pv 0)) PJ.nil))))) pa_nil)) (pa_cons pe_non pa_nil))) pa_nil)))))) dl),?_⟩
 rintro σ H1 ⟨o4,o5,o6,o7,o8,o9,rfl,E1,hs0,hr0⟩
 obtain ⟨rfl,rfl⟩:=hs0 rfl
 obtain ⟨lf,rfl,ts0,hf,F⟩:=id (hr0 _ rfl)
 have E:Ev TS [] H1 H1:=Ev.refl _ _
 refine ⟨InvPl TS Hs wa wb wp wq true (some (pl04_9 wa wb wp wq)),?_,hl⟩
 walk_at "rd"
 refine ⟨by decide +kernel,js_c (n:=20) (y:=wa) (by decide +kernel) (by omega) (by decide) (ht_v rfl (by omega)) fun q1b1=>js_c (y:=" ") q1b1 (by decide +kernel) (by decide) ht_c fun q1b2=>js_c (y:=wp) q1b2 (by omega) (by decide) (ht_v rfl (by omega)) fun q1b3=>js_c (y:=" 5 6") q1b3 (by decide +kernel) (by decide) ht_c fun q1b4=>?_⟩
 walk_at "rd"
 refine ⟨by show 2≤sizeLine; decide +kernel,fun l1 n1=>?_⟩
 generalize hX:upd _ l1 _=G1
 obtain ⟨e1,g1⟩:=new_facts (TS:=TS) hX n1
 clear hX
 walk_at "rs"
 replace E:=E.trans e1 trivial
 clear n1
 replace g1:G1 l1=some (.lst (([[("take" : Str),wp,("spot" : Str),wa],[("set" : Str),wa,wp,("5" : Str),("6" : Str)]].map lineS).map V.str)):=by rw [g1,fl4_7 wa wp]; simp only [List.map_cons,List.map_nil,ls1]
 walk_at "rd"
 refine ⟨by show 2≤sizeLine; decide +kernel,fun t2 n2=>?_⟩
 generalize hX:upd _ t2 _=G2
 obtain ⟨e2,g2⟩:=new_facts (TS:=TS) hX n2
 clear hX
 walk_at "rs"
 replace E:=E.trans e2 trivial
 clear n2
 have rs:RowsL G2 _ _:=.cons (r:=([[("take" : Str),wp,("spot" : Str),wa],[("set" : Str),wa,wp,("5" : Str),("6" : Str)]],some 2)) g2 (ev_lst e2 g1 trivial) .nil
 clear g2
 walk_at "rd"
 refine ⟨by decide +kernel,js_c (n:=20) (y:=wa) (by decide +kernel) (by omega) (by decide) (ht_v rfl (by omega)) fun q2c1=>js_c (y:=" into ") q2c1 (by decide +kernel) (by decide) ht_c fun q2c2=>js_c (y:=wb) q2c2 (by omega) (by decide) (ht_v rfl (by omega)) fun q2c3=>js_c (y:=" ") q2c3 (by decide +kernel) (by decide) ht_c fun q2c4=>js_c (y:=wb) q2c4 (by omega) (by decide) (ht_v rfl (by omega)) fun q2c5=>?_⟩
 walk_at "rd"
 refine ⟨by show 1≤sizeLine; decide +kernel,fun l3 n3=>?_⟩
 generalize hX:upd _ l3 _=G3
 obtain ⟨e3,g3⟩:=new_facts (TS:=TS) hX n3
 clear hX
 walk_at "rs"
 replace E:=E.trans e3 trivial
 replace rs:=rs.ev e3
 clear n3
 replace g3:G3 l3=some (.lst (([[("pour" : Str),wa,("into" : Str),wb,wb]].map lineS).map V.str)):=by rw [g3,fl4_8 wa wb wb]; simp only [List.map_cons,List.map_nil,ls1]
 walk_at "rd"
 refine ⟨by show 2≤sizeLine; decide +kernel,fun t4 n4=>?_⟩
 generalize hX:upd _ t4 _=G4
 obtain ⟨e4,g4⟩:=new_facts (TS:=TS) hX n4
 clear hX
 walk_at "rs"
 replace E:=E.trans e4 trivial
 replace rs:=rs.ev e4
 clear n4
 replace rs:=RowsL.app rs (.cons (r:=([[("pour" : Str),wa,("into" : Str),wb,wb]],some 1)) g4 (ev_lst e4 g3 trivial) .nil)
 clear g4
 walk_at "rd"
 refine ⟨by decide +kernel,js_c (n:=20) (y:=wa) (by decide +kernel) (by omega) (by decide) (ht_v rfl (by omega)) fun q3d1=>js_c (y:=" into ") q3d1 (by decide +kernel) (by decide) ht_c fun q3d2=>js_c (y:=wa) q3d2 (by omega) (by decide) (ht_v rfl (by omega)) fun q3d3=>?_⟩
 walk_at "rd"
 refine ⟨by show 1≤sizeLine; decide +kernel,fun l5 n5=>?_⟩
 generalize hX:upd _ l5 _=G5
 obtain ⟨e5,g5⟩:=new_facts (TS:=TS) hX n5
 clear hX
 walk_at "rs"
 replace E:=E.trans e5 trivial
 replace rs:=rs.ev e5
 clear n5
 replace g5:G5 l5=some (.lst (([[("pour" : Str),wa,("into" : Str),wa]].map lineS).map V.str)):=by rw [g5,fl4_9 wa wa]; simp only [List.map_cons,List.map_nil,ls1]
 walk_at "rd"
 refine ⟨by show 2≤sizeLine; decide +kernel,fun t6 n6=>?_⟩
 generalize hX:upd _ t6 _=G6
 obtain ⟨e6,g6⟩:=new_facts (TS:=TS) hX n6
 clear hX
 walk_at "rs"
 replace E:=E.trans e6 trivial
 replace rs:=rs.ev e6
 clear n6
 replace rs:=RowsL.app rs (.cons (r:=([[("pour" : Str),wa,("into" : Str),wa]],none)) g6 (ev_lst e6 g5 trivial) .nil)
 clear g6
 walk_at "rd"
 refine ⟨by show 3≤sizeLine; decide +kernel,fun o7 n7=>?_⟩
 generalize hX:upd _ o7 _=G7
 obtain ⟨e7,g7⟩:=new_facts (TS:=TS) hX n7
 clear hX
 walk_at "rs"
 replace E:=E.trans e7 trivial
 replace rs:=rs.ev e7
 clear n7
 have Fl:=F.len
 refine a_cat (TS:=TS) (ev_lst E hf trivial) g7 (by simp only [List.length_map,Fl]; exact le_line (Nat.le_of_ble_eq_true rfl)) fun lq Hq nq eq gq=>?_
 have rq:RowsQ Hq (.ref lq) (pl04_9 wa wb wp wq):=RowsQ.mk (gq.trans (by rw [show [V.ref t2,V.ref t4,V.ref t6]=[t2,t4,t6].map V.ref from rfl,← List.map_append]; first | done | rfl)) (((F.ev E).app rs).ev eq)
 replace E:=E.trans eq trivial
 walk_at "rd"
 exact ⟨_,_,_,_,_,_,rfl,E1.trans E trivial,(fun _=>⟨rfl,rfl⟩),(fun R e=>by cases e; exact ⟨lq,rfl,rq.get⟩)⟩
theorem pl_s8 (TS:List (Addr × Str)) {f:Addr} (cdv:Value) (A:Around) (outer:List Env) (s:Shared) (Hs H:Hp) (Q:VK) (E0:XK) (wa wb wp wq:Str) (W4:Ws04 [wa,wb,wp,wq]) (kk:∀ (r:Addr) (H':Hp),Ev TS [] Hs H'→RowsQ H' (.ref r) (pl04_11 wa wb wp wq)→Q (.ref r) H') (hr:Room 0 (A.deeper (envOfC "_law_plans" (defScope s_plans) s.heap.objs.size f cdv))):∃ t,PSs (cxOf CX0 P w K mg base ["_law_a","_law_b","_law_p","_law_q","_law_spot","_law_turn","_law_found","_law_word","_law_is_right","_law_sign"] "_law_plans" (defScope s_plans) f cdv A outer s H E0).nox ((defBody s_plans).drop 8) t∧∀ σ H',InvPl TS Hs wa wb wp wq true (some (pl04_7 wa wb wp wq)) σ H'→t { nx:=fun _ H'=>Q .non H',rt:=Q } σ H':=by
 have l_wa:=W4.len (z:=wa) (by simp)
 have l_wb:=W4.len (z:=wb) (by simp)
 have l_wp:=W4.len (z:=wp) (by simp)
 have l_wq:=W4.len (z:=wq) (by simp)
 obtain ⟨tl,dl,hl⟩:=pl_s9 TS (f:=f) (P:=P) (w:=w) (K:=K) (mg:=mg) (base:=base) cdv A outer s Hs H Q E0 wa wb wp wq W4 kk hr
 refine ⟨_,(C8.pss_cut (ps_set (i:=6) sc_plans.nd rfl (Or.inl rfl) (pe_op op_cat (pv 6) (pe_lst (pa_cons (pe_tup (pa_cons (pe_lst (pa_cons (pv 5) (pa_cons (pe_joined (PJ.cons pe_str (PJ.cons (pe_fmt (pv 0)) (PJ.cons pe_str (PJ.cons (pe_fmt (pv 2)) (PJ.cons pe_str (PJ.cons (pe_fmt (pv 2)) PJ.nil))))))) pa_nil))) (pa_cons pe_int pa_nil))) (pa_cons (pe_tup (pa_cons (pe_lst (pa_cons (pv 4) (pa_cons (pe_joined (PJ.cons pe_str (PJ.cons (pe_fmt (pv 0)) (PJ.cons pe_str (PJ.cons (pe_fmt (pv 2)) (PJ.cons pe_str PJ.nil)))))) pa_nil))) (pa_cons pe_int pa_nil))) (pa_cons (pe_tup (pa_cons (pe_lst (pa_cons (pv 4) (pa_cons (pe_joined (PJ.cons pe_str (PJ.cons (pe_fmt (pv 0)) (PJ.cons pe_str (PJ.cons (pe_fmt (pv 2)) PJ.nil))))) pa_nil))) (pa_cons pe_int pa_nil))) pa_nil)))))) dl),?_⟩
 rintro σ H1 ⟨o4,o5,o6,o7,o8,o9,rfl,E1,hs0,hr0⟩
 obtain ⟨rfl,rfl⟩:=hs0 rfl
 obtain ⟨lf,rfl,ts0,hf,F⟩:=id (hr0 _ rfl)
 have E:Ev TS [] H1 H1:=Ev.refl _ _
 refine ⟨InvPl TS Hs wa wb wp wq true (some (pl04_8 wa wb wp wq)),?_,hl⟩
 walk_at "rd"
 refine ⟨by decide +kernel,js_c (n:=20) (y:=wa) (by decide +kernel) (by omega) (by decide) (ht_v rfl (by omega)) fun q1b1=>js_c (y:=" ") q1b1 (by decide +kernel) (by decide) ht_c fun q1b2=>js_c (y:=wp) q1b2 (by omega) (by decide) (ht_v rfl (by omega)) fun q1b3=>js_c (y:=" ") q1b3 (by decide +kernel) (by decide) ht_c fun q1b4=>js_c (y:=wp) q1b4 (by omega) (by decide) (ht_v rfl (by omega)) fun q1b5=>?_⟩
 walk_at "rd"
 refine ⟨by show 2≤sizeLine; decide +kernel,fun l1 n1=>?_⟩
 generalize hX:upd _ l1 _=G1
 obtain ⟨e1,g1⟩:=new_facts (TS:=TS) hX n1
 clear hX
 walk_at "rs"
 replace E:=E.trans e1 trivial
 clear n1
 replace g1:G1 l1=some (.lst (([[("take" : Str),wp,("turn" : Str),wb],[("move" : Str),wa,wp,wp]].map lineS).map V.str)):=by rw [g1,fl4_10 wa wp wp]; simp only [List.map_cons,List.map_nil,ls1]
 walk_at "rd"
 refine ⟨by show 2≤sizeLine; decide +kernel,fun t2 n2=>?_⟩
 generalize hX:upd _ t2 _=G2
 obtain ⟨e2,g2⟩:=new_facts (TS:=TS) hX n2
 clear hX
 walk_at "rs"
 replace E:=E.trans e2 trivial
 clear n2
 have rs:RowsL G2 _ _:=.cons (r:=([[("take" : Str),wp,("turn" : Str),wb],[("move" : Str),wa,wp,wp]],some 2)) g2 (ev_lst e2 g1 trivial) .nil
 clear g2
 walk_at "rd"
 refine ⟨by decide +kernel,js_c (n:=20) (y:=wa) (by decide +kernel) (by omega) (by decide) (ht_v rfl (by omega)) fun q2c1=>js_c (y:=" ") q2c1 (by decide +kernel) (by decide) ht_c fun q2c2=>js_c (y:=wp) q2c2 (by omega) (by decide) (ht_v rfl (by omega)) fun q2c3=>js_c (y:=" 5") q2c3 (by decide +kernel) (by decide) ht_c fun q2c4=>?_⟩
 walk_at "rd"
 refine ⟨by show 2≤sizeLine; decide +kernel,fun l3 n3=>?_⟩
 generalize hX:upd _ l3 _=G3
 obtain ⟨e3,g3⟩:=new_facts (TS:=TS) hX n3
 clear hX
 walk_at "rs"
 replace E:=E.trans e3 trivial
 replace rs:=rs.ev e3
 clear n3
 replace g3:G3 l3=some (.lst (([[("take" : Str),wp,("spot" : Str),wa],[("cut" : Str),wa,wp,("5" : Str)]].map lineS).map V.str)):=by rw [g3,fl4_11 wa wp]; simp only [List.map_cons,List.map_nil,ls1]
 walk_at "rd"
 refine ⟨by show 2≤sizeLine; decide +kernel,fun t4 n4=>?_⟩
 generalize hX:upd _ t4 _=G4
 obtain ⟨e4,g4⟩:=new_facts (TS:=TS) hX n4
 clear hX
 walk_at "rs"
 replace E:=E.trans e4 trivial
 replace rs:=rs.ev e4
 clear n4
 replace rs:=RowsL.app rs (.cons (r:=([[("take" : Str),wp,("spot" : Str),wa],[("cut" : Str),wa,wp,("5" : Str)]],some 2)) g4 (ev_lst e4 g3 trivial) .nil)
 clear g4
 walk_at "rd"
 refine ⟨by decide +kernel,js_c (n:=20) (y:=wa) (by decide +kernel) (by omega) (by decide) (ht_v rfl (by omega)) fun q3d1=>js_c (y:=" ") q3d1 (by decide +kernel) (by decide) ht_c fun q3d2=>js_c (y:=wp) q3d2 (by omega) (by decide) (ht_v rfl (by omega)) fun q3d3=>?_⟩
 walk_at "rd"
 refine ⟨by show 2≤sizeLine; decide +kernel,fun l5 n5=>?_⟩
 generalize hX:upd _ l5 _=G5
 obtain ⟨e5,g5⟩:=new_facts (TS:=TS) hX n5
 clear hX
 walk_at "rs"
 replace E:=E.trans e5 trivial
 replace rs:=rs.ev e5
 clear n5
 replace g5:G5 l5=some (.lst (([[("take" : Str),wp,("spot" : Str),wa],[("set" : Str),wa,wp]].map lineS).map V.str)):=by rw [g5,fl4_12 wa wp]; simp only [List.map_cons,List.map_nil,ls1]
 walk_at "rd"
 refine ⟨by show 2≤sizeLine; decide +kernel,fun t6 n6=>?_⟩
 generalize hX:upd _ t6 _=G6
 obtain ⟨e6,g6⟩:=new_facts (TS:=TS) hX n6
 clear hX
 walk_at "rs"
 replace E:=E.trans e6 trivial
 replace rs:=rs.ev e6
 clear n6
 replace rs:=RowsL.app rs (.cons (r:=([[("take" : Str),wp,("spot" : Str),wa],[("set" : Str),wa,wp]],some 2)) g6 (ev_lst e6 g5 trivial) .nil)
 clear g6
 walk_at "rd"
 refine ⟨by show 3≤sizeLine; decide +kernel,fun o7 n7=>?_⟩
 generalize hX:upd _ o7 _=G7
 obtain ⟨e7,g7⟩:=new_facts (TS:=TS) hX n7
 clear hX
 walk_at "rs"
 replace E:=E.trans e7 trivial
 replace rs:=rs.ev e7
 clear n7
 have Fl:=F.len
 refine a_cat (TS:=TS) (ev_lst E hf trivial) g7 (by simp only [List.length_map,Fl]; exact le_line (Nat.le_of_ble_eq_true rfl)) fun lq Hq nq eq gq=>?_
 have rq:RowsQ Hq (.ref lq) (pl04_8 wa wb wp wq):=RowsQ.mk (gq.trans (by rw [show [V.ref t2,V.ref t4,V.ref t6]=[t2,t4,t6].map V.ref from rfl,← List.map_append]; first | done | rfl)) (((F.ev E).app rs).ev eq)
 replace E:=E.trans eq trivial
 walk_at "rd"
 exact ⟨_,_,_,_,_,_,rfl,E1.trans E trivial,(fun _=>⟨rfl,rfl⟩),(fun R e=>by cases e; exact ⟨lq,rfl,rq.get⟩)⟩
theorem pl_s7 (TS:List (Addr × Str)) {f:Addr} (cdv:Value) (A:Around) (outer:List Env) (s:Shared) (Hs H:Hp) (Q:VK) (E0:XK) (wa wb wp wq:Str) (W4:Ws04 [wa,wb,wp,wq]) (kk:∀ (r:Addr) (H':Hp),Ev TS [] Hs H'→RowsQ H' (.ref r) (pl04_11 wa wb wp wq)→Q (.ref r) H') (hr:Room 0 (A.deeper (envOfC "_law_plans" (defScope s_plans) s.heap.objs.size f cdv))):∃ t,PSs (cxOf CX0 P w K mg base ["_law_a","_law_b","_law_p","_law_q","_law_spot","_law_turn","_law_found","_law_word","_law_is_right","_law_sign"] "_law_plans" (defScope s_plans) f cdv A outer s H E0).nox ((defBody s_plans).drop 7) t∧∀ σ H',InvPl TS Hs wa wb wp wq true (some (pl04_6 wa wb wp wq)) σ H'→t { nx:=fun _ H'=>Q .non H',rt:=Q } σ H':=by
 have l_wa:=W4.len (z:=wa) (by simp)
 have l_wb:=W4.len (z:=wb) (by simp)
 have l_wp:=W4.len (z:=wp) (by simp)
 have l_wq:=W4.len (z:=wq) (by simp)
 obtain ⟨tl,dl,hl⟩:=pl_s8 TS (f:=f) (P:=P) (w:=w) (K:=K) (mg:=mg) (base:=base) cdv A outer s Hs H Q E0 wa wb wp wq W4 kk hr
 refine ⟨_,(C8.pss_cut (ps_for PassesOwn.never rfl (pi_tup (pe_tup (pa_cons (pe_tup (pa_cons pe_str (pa_cons pe_bl pa_nil))) (pa_cons (pe_tup (pa_cons pe_str (pa_cons pe_bl pa_nil))) (pa_cons (pe_tup (pa_cons (pe_op op_repS pe_str pe_int) (pa_cons pe_bl pa_nil))) (pa_cons (pe_tup (pa_cons (pe_op op_add_str pe_str (pe_op op_repS pe_str pe_int)) (pa_cons pe_bl pa_nil))) (pa_cons (pe_tup (pa_cons pe_str (pa_cons pe_bl pa_nil))) pa_nil))))))) (pg_tup rfl (pgs_cons (pg_name (i:=7) sc_plans.nd rfl (Or.inl rfl)) (pgs_cons (pg_name (i:=8) sc_plans.nd rfl (Or.inl rfl)) pgs_nil)))
    (pss_cons (ps_set (i:=6) sc_plans.nd rfl (Or.inl rfl) (pe_op op_cat (pv 6) (pe_lst (pa_cons (pe_tup (pa_cons (pe_lst (pa_cons (pe_joined (PJ.cons pe_str (PJ.cons (pe_fmt (pv 2)) (PJ.cons pe_str (PJ.cons (pe_fmt (pv 0)) (PJ.cons pe_str (PJ.cons (pe_fmt (pv 7)) PJ.nil))))))) pa_nil)) (pa_cons (pe_ifExp (pt_val (pv 8)) pe_non pe_int) pa_nil))) pa_nil))))
    (pss_one (ps_set (i:=6) sc_plans.nd rfl (Or.inl rfl) (pe_op op_cat (pv 6) (pe_lst (pa_cons (pe_tup (pa_cons (pe_lst (pa_cons (pv 4) (pa_cons (pe_joined (PJ.cons pe_str (PJ.cons (pe_fmt (pv 0)) (PJ.cons pe_str (PJ.cons (pe_fmt (pv 2)) (PJ.cons pe_str (PJ.cons (pe_fmt (pv 7)) PJ.nil))))))) pa_nil))) (pa_cons (pe_ifExp (pt_val (pv 8)) pe_non pe_int) pa_nil))) pa_nil))))))) dl),?_⟩
 rintro σ H1 ⟨o4,o5,o6,o7,o8,o9,rfl,E1,hs0,hr0⟩
 obtain ⟨rfl,rfl⟩:=hs0 rfl
 obtain ⟨lf,rfl,ts0,hf,F⟩:=id (hr0 _ rfl)
 refine ⟨InvPl TS Hs wa wb wp wq true (some (pl04_7 wa wb wp wq)),?_,hl⟩
 have E:Ev TS [] H1 H1:=Ev.refl _ _
 walk_at "rd"
 refine ⟨by show 2≤sizeLine; decide +kernel,fun t1 n1=>?_⟩
 generalize hX:upd _ t1 _=G1
 obtain ⟨e1,g1⟩:=new_facts (TS:=TS) hX n1
 clear hX
 walk_at "rs"
 replace E:=E.trans e1 trivial
 have f1:=g1
 walk_at "rd"
 refine ⟨by show 2≤sizeLine; decide +kernel,fun t2 n2=>?_⟩
 generalize hX:upd _ t2 _=G2
 obtain ⟨e2,g2⟩:=new_facts (TS:=TS) hX n2
 clear hX
 walk_at "rs"
 replace E:=E.trans e2 trivial
 have f2:=g2
 walk_at "rd"
 refine ⟨by decide,?_⟩
 walk_at "rd"
 refine ⟨by show 2≤sizeLine; decide +kernel,fun t3 n3=>?_⟩
 generalize hX:upd _ t3 _=G3
 obtain ⟨e3,g3⟩:=new_facts (TS:=TS) hX n3
 clear hX
 walk_at "rs"
 replace E:=E.trans e3 trivial
 have f3:G3 t3=some (.tup [.str "99999999999999999999",.bl true]):=by rw [g3]; exact congrArg (fun z:Str=>some (HO.tup [V.str z,V.bl true])) (by decide +kernel)
 walk_at "rd"
 refine ⟨by decide,?_⟩
 walk_at "rd"
 refine ⟨by decide +kernel,?_⟩
 walk_at "rd"
 refine ⟨by show 2≤sizeLine; decide +kernel,fun t4 n4=>?_⟩
 generalize hX:upd _ t4 _=G4
 obtain ⟨e4,g4⟩:=new_facts (TS:=TS) hX n4
 clear hX
 walk_at "rs"
 replace E:=E.trans e4 trivial
 have f4:G4 t4=some (.tup [.str "100000000000000000000",.bl false]):=by rw [g4]; exact congrArg (fun z:Str=>some (HO.tup [V.str z,V.bl false])) (by decide +kernel)
 walk_at "rd"
 refine ⟨by show 2≤sizeLine; decide +kernel,fun t5 n5=>?_⟩
 generalize hX:upd _ t5 _=G5
 obtain ⟨e5,g5⟩:=new_facts (TS:=TS) hX n5
 clear hX
 walk_at "rs"
 replace E:=E.trans e5 trivial
 have f5:=g5
 walk_at "rd"
 refine ⟨by show 5≤sizeLine; decide +kernel,fun o6 n6=>?_⟩
 generalize hX:upd _ o6 _=G6
 obtain ⟨e6,g6⟩:=new_facts (TS:=TS) hX n6
 clear hX
 walk_at "rs"
 replace E:=E.trans e6 trivial
 have tf:∀ (i:Nat) (v:V),[V.ref t1,V.ref t2,V.ref t3,V.ref t4,V.ref t5][i]? = some v→∃ t r,v=.ref t∧W4L[i]? = some r∧G6 t=some (.tup [.str r.1,.bl r.2]):=fun i v hv=>by
  match i,hv with
  | 0,hv=>cases hv; exact ⟨t1,_,rfl,rfl,ev_tup ((((e2.trans e3 trivial).trans e4 trivial).trans e5 trivial).trans e6 trivial) f1⟩
  | 1,hv=>cases hv; exact ⟨t2,_,rfl,rfl,ev_tup (((e3.trans e4 trivial).trans e5 trivial).trans e6 trivial) f2⟩
  | 2,hv=>cases hv; exact ⟨t3,_,rfl,rfl,ev_tup ((e4.trans e5 trivial).trans e6 trivial) f3⟩
  | 3,hv=>cases hv; exact ⟨t4,_,rfl,rfl,ev_tup (e5.trans e6 trivial) f4⟩
  | 4,hv=>cases hv; exact ⟨t5,_,rfl,rfl,ev_tup e6 f5⟩
  | i+5,hv=>simp at hv
 clear f1 f2 f3 f4 f5 g1 g2 g3 g4 g5 e1 e2 e3 e4 e5 e6 n1 n2 n3 n4 n5 n6
 walk_at "rd"
 refine ⟨⟨_,SqT.of g6⟩,?_⟩
 refine for_it (walk_tup (xs:=[V.ref t1,V.ref t2,V.ref t3,V.ref t4,V.ref t5])) (fun i σ H'=>∃ (lq:Addr) (o7 o8:Option V),σ=[some (.str wa),some (.str wb),some (.str wp),some (.str wq),some (.str (lineS [("take" : Str),wp,("spot" : Str),wa])),some (.str (lineS [("take" : Str),wp,("turn" : Str),wb])),some (.ref lq),o7,o8,o9]∧Ev TS [] G6 H'∧∃ ts:List Addr,H' lq=some (.lst (ts.map V.ref))∧RowsL H' ts (pl04_6 wa wb wp wq++(W4L.take i).flatMap (pw4 wa wp)))
  ⟨lf,o7,o8,rfl,Ev.refl _ _,ts0,ev_lst E hf trivial,by show RowsL G6 ts0 (pl04_6 wa wb wp wq++[]); rw [List.append_nil]; exact F.ev E⟩ (fun i σ H' _ ⟨_,_,_,_,e,_⟩=>SqT.of (ev_tup e g6)) ?_ ?_
 ·rintro i v σ Hz H3 hi ⟨lq,o7,o8,rfl,e3,ts1,hq,F1⟩ ⟨rfl,hv⟩
  obtain ⟨tt,⟨z,ok⟩,rfl,hz,ht⟩:=tf i v hv
  have zl:z.length≤30:=w4_len (z,ok) (List.mem_of_getElem? hz)
  have tk:W4L.take (i+1)=W4L.take i++[(z,ok)]:=by
   rw [List.take_add_one,hz]
   rfl
  have Fl:=F1.len
  have i5:i < 5:=hi
  have R6:(pl04_6 wa wb wp wq++(W4L.take i).flatMap (pw4 wa wp)).length≤100:=by
   rw [List.length_append,List.length_flatMap]
   have:((W4L.take i).map fun r=>(pw4 wa wp r).length)=List.replicate (W4L.take i).length 2:=List.eq_replicate_iff.mpr ⟨List.length_map _,fun n hn=>by obtain ⟨_,_,rfl⟩:=List.mem_map.mp hn; rfl⟩
   rw [this,List.sum_replicate_nat,List.length_take]
   have h6:(pl04_6 wa wb wp wq).length=14:=rfl
   omega
  refine ⟨tt,_,rfl,SqT.of (ev_tup e3 ht),rfl,?_⟩
  have E:Ev TS [] H3 H3:=Ev.refl _ _
  cases ok with
  | true =>
   walk_at "rd"
   refine ⟨by decide +kernel,js_c (n:=20) (y:=wp) (by decide +kernel) (by omega) (by decide) (ht_v rfl (by omega)) fun q1t1=>js_c (y:=" keep ") q1t1 (by decide +kernel) (by decide) ht_c fun q1t2=>js_c (y:=wa) q1t2 (by omega) (by decide) (ht_v rfl (by omega)) fun q1t3=>js_c (y:=" = ") q1t3 (by decide +kernel) (by decide) ht_c fun q1t4=>js_c (y:=z) q1t4 (by omega) (by decide) (ht_v rfl (by omega)) fun q1t5=>?_⟩
   walk_at "rd"
   refine ⟨by show 1≤sizeLine; decide +kernel,fun l1 n1=>?_⟩
   generalize hX:upd _ l1 _=J1
   obtain ⟨e1,g1⟩:=new_facts (TS:=TS) hX n1
   clear hX
   walk_at "rs"
   replace E:=E.trans e1 trivial
   replace g1:J1 l1=some (.lst (([[("take" : Str),wp,("keep" : Str),wa,("=" : Str),z]].map lineS).map V.str)):=by rw [g1,fl4_ke wp wa z]; simp only [List.map_cons,List.map_nil]
   walk_at "rd"
   walk_at "if"
   walk_at "rd"
   refine ⟨by show 2≤sizeLine; decide +kernel,fun u2 n2=>?_⟩
   generalize hX:upd _ u2 _=J2
   obtain ⟨e2,g2⟩:=new_facts (TS:=TS) hX n2
   clear hX
   walk_at "rs"
   replace E:=E.trans e2 trivial
   have rs:RowsL J2 _ _:=.cons (r:=([[("take" : Str),wp,("keep" : Str),wa,("=" : Str),z]],dd4 true 1)) g2 (ev_lst e2 g1 trivial) .nil
   walk_at "rd"
   refine ⟨by show 1≤sizeLine; decide +kernel,fun v3 n3=>?_⟩
   generalize hX:upd _ v3 _=J3
   obtain ⟨e3',g3⟩:=new_facts (TS:=TS) hX n3
   clear hX
   walk_at "rs"
   replace E:=E.trans e3' trivial
   replace rs:=rs.ev e3'
   refine a_cat (TS:=TS) (ev_lst E hq trivial) g3 (by rw [List.length_map,Fl]; exact le_line (by show _+1≤_; omega)) fun lr J4 n4 e4 g4=>?_
   replace E:=E.trans e4 trivial
   have F2:=((F1.ev E).app (rs.ev e4))
   replace g4:J4 lr=some (.lst ((ts1++[u2]).map V.ref)):=g4.trans (by rw [List.map_append]; rfl)
   clear rs g1 g2 g3 n1 n2 n3 n4 e1 e2 e3' e4
   walk_at "rd"
   refine ⟨by decide +kernel,js_c (n:=20) (y:=wa) (by decide +kernel) (by omega) (by decide) (ht_v rfl (by omega)) fun q2t1=>js_c (y:=" ") q2t1 (by decide +kernel) (by decide) ht_c fun q2t2=>js_c (y:=wp) q2t2 (by omega) (by decide) (ht_v rfl (by omega)) fun q2t3=>js_c (y:=" ") q2t3 (by decide +kernel) (by decide) ht_c fun q2t4=>js_c (y:=z) q2t4 (by omega) (by decide) (ht_v rfl (by omega)) fun q2t5=>?_⟩
   walk_at "rd"
   refine ⟨by show 2≤sizeLine; decide +kernel,fun l5 n5=>?_⟩
   generalize hX:upd _ l5 _=J5
   obtain ⟨e5,g5⟩:=new_facts (TS:=TS) hX n5
   clear hX
   walk_at "rs"
   have E':Ev TS [] J4 J5:=e5
   replace g5:J5 l5=some (.lst (([[("take" : Str),wp,("spot" : Str),wa],[("set" : Str),wa,wp,z]].map lineS).map V.str)):=by rw [g5,fl4_se wa wp z]; simp only [List.map_cons,List.map_nil]
   walk_at "rd"
   walk_at "if"
   walk_at "rd"
   refine ⟨by show 2≤sizeLine; decide +kernel,fun u6 n6=>?_⟩
   generalize hX:upd _ u6 _=J6
   obtain ⟨e6,g6'⟩:=new_facts (TS:=TS) hX n6
   clear hX
   walk_at "rs"
   replace E':=E'.trans e6 trivial
   have rs:RowsL J6 _ _:=.cons (r:=([[("take" : Str),wp,("spot" : Str),wa],[("set" : Str),wa,wp,z]],dd4 true 2)) g6' (ev_lst e6 g5 trivial) .nil
   walk_at "rd"
   refine ⟨by show 1≤sizeLine; decide +kernel,fun v7 n7=>?_⟩
   generalize hX:upd _ v7 _=J7
   obtain ⟨e7,g7⟩:=new_facts (TS:=TS) hX n7
   clear hX
   walk_at "rs"
   replace E':=E'.trans e7 trivial
   replace rs:=rs.ev e7
   refine a_cat (TS:=TS) (ev_lst E' g4 trivial) g7 (by rw [List.length_map,List.length_append,Fl]; exact le_line (by show _+1+1≤_; omega)) fun ls J8 n8 e8 g8=>?_
   replace E':=E'.trans e8 trivial
   have F3:=(F2.ev E').app (rs.ev e8)
   walk_at "rd"
   refine ⟨ls,_,_,rfl,(e3.trans E trivial).trans E' trivial,(ts1++[u2])++[u6],g8.trans (by rw [List.map_append (l₁:=ts1++[u2])]; rfl),?_⟩
   rw [tk,List.flatMap_append,← List.append_assoc]
   rw [show List.flatMap (pw4 wa wp) [(z,true)]=[([[("take" : Str),wp,("keep" : Str),wa,("=" : Str),z]],dd4 true 1)]++[([[("take" : Str),wp,("spot" : Str),wa],[("set" : Str),wa,wp,z]],dd4 true 2)] from rfl,← List.append_assoc]
   exact F3
  | false =>
   walk_at "rd"
   refine ⟨by decide +kernel,js_c (n:=20) (y:=wp) (by decide +kernel) (by omega) (by decide) (ht_v rfl (by omega)) fun q1f1=>js_c (y:=" keep ") q1f1 (by decide +kernel) (by decide) ht_c fun q1f2=>js_c (y:=wa) q1f2 (by omega) (by decide) (ht_v rfl (by omega)) fun q1f3=>js_c (y:=" = ") q1f3 (by decide +kernel) (by decide) ht_c fun q1f4=>js_c (y:=z) q1f4 (by omega) (by decide) (ht_v rfl (by omega)) fun q1f5=>?_⟩
   walk_at "rd"
   refine ⟨by show 1≤sizeLine; decide +kernel,fun l1 n1=>?_⟩
   generalize hX:upd _ l1 _=J1
   obtain ⟨e1,g1⟩:=new_facts (TS:=TS) hX n1
   clear hX
   walk_at "rs"
   replace E:=E.trans e1 trivial
   replace g1:J1 l1=some (.lst (([[("take" : Str),wp,("keep" : Str),wa,("=" : Str),z]].map lineS).map V.str)):=by rw [g1,fl4_ke wp wa z]; simp only [List.map_cons,List.map_nil]
   walk_at "rd"
   walk_at "if"
   walk_at "rd"
   refine ⟨by show 2≤sizeLine; decide +kernel,fun u2 n2=>?_⟩
   generalize hX:upd _ u2 _=J2
   obtain ⟨e2,g2⟩:=new_facts (TS:=TS) hX n2
   clear hX
   walk_at "rs"
   replace E:=E.trans e2 trivial
   have rs:RowsL J2 _ _:=.cons (r:=([[("take" : Str),wp,("keep" : Str),wa,("=" : Str),z]],dd4 false 1)) g2 (ev_lst e2 g1 trivial) .nil
   walk_at "rd"
   refine ⟨by show 1≤sizeLine; decide +kernel,fun v3 n3=>?_⟩
   generalize hX:upd _ v3 _=J3
   obtain ⟨e3',g3⟩:=new_facts (TS:=TS) hX n3
   clear hX
   walk_at "rs"
   replace E:=E.trans e3' trivial
   replace rs:=rs.ev e3'
   refine a_cat (TS:=TS) (ev_lst E hq trivial) g3 (by rw [List.length_map,Fl]; exact le_line (by show _+1≤_; omega)) fun lr J4 n4 e4 g4=>?_
   replace E:=E.trans e4 trivial
   have F2:=((F1.ev E).app (rs.ev e4))
   replace g4:J4 lr=some (.lst ((ts1++[u2]).map V.ref)):=g4.trans (by rw [List.map_append]; rfl)
   clear rs g1 g2 g3 n1 n2 n3 n4 e1 e2 e3' e4
   walk_at "rd"
   refine ⟨by decide +kernel,js_c (n:=20) (y:=wa) (by decide +kernel) (by omega) (by decide) (ht_v rfl (by omega)) fun q2f1=>js_c (y:=" ") q2f1 (by decide +kernel) (by decide) ht_c fun q2f2=>js_c (y:=wp) q2f2 (by omega) (by decide) (ht_v rfl (by omega)) fun q2f3=>js_c (y:=" ") q2f3 (by decide +kernel) (by decide) ht_c fun q2f4=>js_c (y:=z) q2f4 (by omega) (by decide) (ht_v rfl (by omega)) fun q2f5=>?_⟩
   walk_at "rd"
   refine ⟨by show 2≤sizeLine; decide +kernel,fun l5 n5=>?_⟩
   generalize hX:upd _ l5 _=J5
   obtain ⟨e5,g5⟩:=new_facts (TS:=TS) hX n5
   clear hX
   walk_at "rs"
   have E':Ev TS [] J4 J5:=e5
   replace g5:J5 l5=some (.lst (([[("take" : Str),wp,("spot" : Str),wa],[("set" : Str),wa,wp,z]].map lineS).map V.str)):=by rw [g5,fl4_se wa wp z]; simp only [List.map_cons,List.map_nil]
   walk_at "rd"
   walk_at "if"
   walk_at "rd"
   refine ⟨by show 2≤sizeLine; decide +kernel,fun u6 n6=>?_⟩
   generalize hX:upd _ u6 _=J6
   obtain ⟨e6,g6'⟩:=new_facts (TS:=TS) hX n6
   clear hX
   walk_at "rs"
   replace E':=E'.trans e6 trivial
   have rs:RowsL J6 _ _:=.cons (r:=([[("take" : Str),wp,("spot" : Str),wa],[("set" : Str),wa,wp,z]],dd4 false 2)) g6' (ev_lst e6 g5 trivial) .nil
   walk_at "rd"
   refine ⟨by show 1≤sizeLine; decide +kernel,fun v7 n7=>?_⟩
   generalize hX:upd _ v7 _=J7
   obtain ⟨e7,g7⟩:=new_facts (TS:=TS) hX n7
   clear hX
   walk_at "rs"
   replace E':=E'.trans e7 trivial
   replace rs:=rs.ev e7
   refine a_cat (TS:=TS) (ev_lst E' g4 trivial) g7 (by rw [List.length_map,List.length_append,Fl]; exact le_line (by show _+1+1≤_; omega)) fun ls J8 n8 e8 g8=>?_
   replace E':=E'.trans e8 trivial
   have F3:=(F2.ev E').app (rs.ev e8)
   walk_at "rd"
   refine ⟨ls,_,_,rfl,(e3.trans E trivial).trans E' trivial,(ts1++[u2])++[u6],g8.trans (by rw [List.map_append (l₁:=ts1++[u2])]; rfl),?_⟩
   rw [tk,List.flatMap_append,← List.append_assoc]
   rw [show List.flatMap (pw4 wa wp) [(z,false)]=[([[("take" : Str),wp,("keep" : Str),wa,("=" : Str),z]],dd4 false 1)]++[([[("take" : Str),wp,("spot" : Str),wa],[("set" : Str),wa,wp,z]],dd4 false 2)] from rfl,← List.append_assoc]
   exact F3
 ·rintro σ H3 ⟨lq,o7,o8,rfl,e3,ts1,hq,F1⟩
  exact ⟨_,_,_,_,_,_,rfl,(E1.trans E trivial).trans e3 trivial,(fun _=>⟨rfl,rfl⟩),(fun R e=>by cases e; exact ⟨lq,rfl,ts1,hq,by rw [← pl7_eq]; exact F1⟩)⟩
theorem pl_s6 (TS:List (Addr × Str)) {f:Addr} (cdv:Value) (A:Around) (outer:List Env) (s:Shared) (Hs H:Hp) (Q:VK) (E0:XK) (wa wb wp wq:Str) (W4:Ws04 [wa,wb,wp,wq]) (kk:∀ (r:Addr) (H':Hp),Ev TS [] Hs H'→RowsQ H' (.ref r) (pl04_11 wa wb wp wq)→Q (.ref r) H') (hr:Room 0 (A.deeper (envOfC "_law_plans" (defScope s_plans) s.heap.objs.size f cdv))):∃ t,PSs (cxOf CX0 P w K mg base ["_law_a","_law_b","_law_p","_law_q","_law_spot","_law_turn","_law_found","_law_word","_law_is_right","_law_sign"] "_law_plans" (defScope s_plans) f cdv A outer s H E0).nox ((defBody s_plans).drop 6) t∧∀ σ H',InvPl TS Hs wa wb wp wq true (some (pl04_5 wa wb wp wq)) σ H'→t { nx:=fun _ H'=>Q .non H',rt:=Q } σ H':=by
 have l_wa:=W4.len (z:=wa) (by simp)
 have l_wb:=W4.len (z:=wb) (by simp)
 have l_wp:=W4.len (z:=wp) (by simp)
 have l_wq:=W4.len (z:=wq) (by simp)
 obtain ⟨tl,dl,hl⟩:=pl_s7 TS (f:=f) (P:=P) (w:=w) (K:=K) (mg:=mg) (base:=base) cdv A outer s Hs H Q E0 wa wb wp wq W4 kk hr
 refine ⟨_,(C8.pss_cut (ps_set (i:=6) sc_plans.nd rfl (Or.inl rfl) (pe_op op_cat (pv 6) (pe_lst (pa_cons (pe_tup (pa_cons (pe_lst (pa_cons (pe_joined (PJ.cons pe_str (PJ.cons (pe_fmt (pv 0)) (PJ.cons pe_str (PJ.cons (pe_fmt (pv 0)) PJ.nil))))) (pa_cons (pe_joined (PJ.cons pe_str (PJ.cons (pe_fmt (pv 1)) (PJ.cons pe_str (PJ.cons (pe_fmt (pv 0)) PJ.nil))))) pa_nil))) (pa_cons pe_non pa_nil))) (pa_cons (pe_tup (pa_cons (pe_lst (pa_cons (pe_joined (PJ.cons pe_str (PJ.cons (pe_fmt (pv 3)) (PJ.cons pe_str (PJ.cons (pe_fmt (pv 0)) PJ.nil))))) (pa_cons (pe_joined (PJ.cons pe_str (PJ.cons (pe_fmt (pv 0)) (PJ.cons pe_str (PJ.cons (pe_fmt (pv 1)) PJ.nil))))) pa_nil))) (pa_cons pe_int pa_nil))) pa_nil))))) dl),?_⟩
 rintro σ H1 ⟨o4,o5,o6,o7,o8,o9,rfl,E1,hs0,hr0⟩
 obtain ⟨rfl,rfl⟩:=hs0 rfl
 obtain ⟨lf,rfl,ts0,hf,F⟩:=id (hr0 _ rfl)
 have E:Ev TS [] H1 H1:=Ev.refl _ _
 refine ⟨InvPl TS Hs wa wb wp wq true (some (pl04_6 wa wb wp wq)),?_,hl⟩
 walk_at "rd"
 refine ⟨by decide +kernel,js_c (n:=20) (y:=wa) (by decide +kernel) (by omega) (by decide) (ht_v rfl (by omega)) fun q1b1=>js_c (y:=" turn ") q1b1 (by decide +kernel) (by decide) ht_c fun q1b2=>js_c (y:=wa) q1b2 (by omega) (by decide) (ht_v rfl (by omega)) fun q1b3=>?_⟩
 walk_at "rd"
 refine ⟨by decide +kernel,js_c (n:=20) (y:=wb) (by decide +kernel) (by omega) (by decide) (ht_v rfl (by omega)) fun q2c1=>js_c (y:=" ") q2c1 (by decide +kernel) (by decide) ht_c fun q2c2=>js_c (y:=wa) q2c2 (by omega) (by decide) (ht_v rfl (by omega)) fun q2c3=>?_⟩
 walk_at "rd"
 refine ⟨by show 2≤sizeLine; decide +kernel,fun l1 n1=>?_⟩
 generalize hX:upd _ l1 _=G1
 obtain ⟨e1,g1⟩:=new_facts (TS:=TS) hX n1
 clear hX
 walk_at "rs"
 replace E:=E.trans e1 trivial
 clear n1
 replace g1:G1 l1=some (.lst (([[("take" : Str),wa,("turn" : Str),wa],[("move" : Str),wb,wa]].map lineS).map V.str)):=by rw [g1,fl4_tu wa wa,fl4_13 wb wa]; simp only [List.map_cons,List.map_nil,ls1]
 walk_at "rd"
 refine ⟨by show 2≤sizeLine; decide +kernel,fun t2 n2=>?_⟩
 generalize hX:upd _ t2 _=G2
 obtain ⟨e2,g2⟩:=new_facts (TS:=TS) hX n2
 clear hX
 walk_at "rs"
 replace E:=E.trans e2 trivial
 clear n2
 have rs:RowsL G2 _ _:=.cons (r:=([[("take" : Str),wa,("turn" : Str),wa],[("move" : Str),wb,wa]],none)) g2 (ev_lst e2 g1 trivial) .nil
 clear g2
 walk_at "rd"
 refine ⟨by decide +kernel,js_c (n:=20) (y:=wq) (by decide +kernel) (by omega) (by decide) (ht_v rfl (by omega)) fun q3d1=>js_c (y:=" order ") q3d1 (by decide +kernel) (by decide) ht_c fun q3d2=>js_c (y:=wa) q3d2 (by omega) (by decide) (ht_v rfl (by omega)) fun q3d3=>?_⟩
 walk_at "rd"
 refine ⟨by decide +kernel,js_c (n:=20) (y:=wa) (by decide +kernel) (by omega) (by decide) (ht_v rfl (by omega)) fun q4e1=>js_c (y:=" ") q4e1 (by decide +kernel) (by decide) ht_c fun q4e2=>js_c (y:=wb) q4e2 (by omega) (by decide) (ht_v rfl (by omega)) fun q4e3=>?_⟩
 walk_at "rd"
 refine ⟨by show 2≤sizeLine; decide +kernel,fun l3 n3=>?_⟩
 generalize hX:upd _ l3 _=G3
 obtain ⟨e3,g3⟩:=new_facts (TS:=TS) hX n3
 clear hX
 walk_at "rs"
 replace E:=E.trans e3 trivial
 replace rs:=rs.ev e3
 clear n3
 replace g3:G3 l3=some (.lst (([[("take" : Str),wq,("order" : Str),wa],[("move" : Str),wa,wb]].map lineS).map V.str)):=by rw [g3,fl4_14 wq wa,fl4_13 wa wb]; simp only [List.map_cons,List.map_nil,ls1]
 walk_at "rd"
 refine ⟨by show 2≤sizeLine; decide +kernel,fun t4 n4=>?_⟩
 generalize hX:upd _ t4 _=G4
 obtain ⟨e4,g4⟩:=new_facts (TS:=TS) hX n4
 clear hX
 walk_at "rs"
 replace E:=E.trans e4 trivial
 replace rs:=rs.ev e4
 clear n4
 replace rs:=RowsL.app rs (.cons (r:=([[("take" : Str),wq,("order" : Str),wa],[("move" : Str),wa,wb]],some 2)) g4 (ev_lst e4 g3 trivial) .nil)
 clear g4
 walk_at "rd"
 refine ⟨by show 2≤sizeLine; decide +kernel,fun o5 n5=>?_⟩
 generalize hX:upd _ o5 _=G5
 obtain ⟨e5,g5⟩:=new_facts (TS:=TS) hX n5
 clear hX
 walk_at "rs"
 replace E:=E.trans e5 trivial
 replace rs:=rs.ev e5
 clear n5
 have Fl:=F.len
 refine a_cat (TS:=TS) (ev_lst E hf trivial) g5 (by simp only [List.length_map,Fl]; exact le_line (Nat.le_of_ble_eq_true rfl)) fun lq Hq nq eq gq=>?_
 have rq:RowsQ Hq (.ref lq) (pl04_6 wa wb wp wq):=RowsQ.mk (gq.trans (by rw [show [V.ref t2,V.ref t4]=[t2,t4].map V.ref from rfl,← List.map_append]; first | done | rfl)) (((F.ev E).app rs).ev eq)
 replace E:=E.trans eq trivial
 walk_at "rd"
 exact ⟨_,_,_,_,_,_,rfl,E1.trans E trivial,(fun _=>⟨rfl,rfl⟩),(fun R e=>by cases e; exact ⟨lq,rfl,rq.get⟩)⟩
theorem pl_s5 (TS:List (Addr × Str)) {f:Addr} (cdv:Value) (A:Around) (outer:List Env) (s:Shared) (Hs H:Hp) (Q:VK) (E0:XK) (wa wb wp wq:Str) (W4:Ws04 [wa,wb,wp,wq]) (kk:∀ (r:Addr) (H':Hp),Ev TS [] Hs H'→RowsQ H' (.ref r) (pl04_11 wa wb wp wq)→Q (.ref r) H') (hr:Room 0 (A.deeper (envOfC "_law_plans" (defScope s_plans) s.heap.objs.size f cdv))):∃ t,PSs (cxOf CX0 P w K mg base ["_law_a","_law_b","_law_p","_law_q","_law_spot","_law_turn","_law_found","_law_word","_law_is_right","_law_sign"] "_law_plans" (defScope s_plans) f cdv A outer s H E0).nox ((defBody s_plans).drop 5) t∧∀ σ H',InvPl TS Hs wa wb wp wq true (some (pl04_4 wa wb wp wq)) σ H'→t { nx:=fun _ H'=>Q .non H',rt:=Q } σ H':=by
 have l_wa:=W4.len (z:=wa) (by simp)
 have l_wb:=W4.len (z:=wb) (by simp)
 have l_wp:=W4.len (z:=wp) (by simp)
 have l_wq:=W4.len (z:=wq) (by simp)
 obtain ⟨tl,dl,hl⟩:=pl_s6 TS (f:=f) (P:=P) (w:=w) (K:=K) (mg:=mg) (base:=base) cdv A outer s Hs H Q E0 wa wb wp wq W4 kk hr
 refine ⟨_,(C8.pss_cut (ps_set (i:=6) sc_plans.nd rfl (Or.inl rfl) (pe_op op_cat (pv 6) (pe_lst (pa_cons (pe_tup (pa_cons (pe_lst (pa_cons pe_str (pa_cons (pv 4) (pa_cons pe_str pa_nil)))) (pa_cons pe_int pa_nil))) (pa_cons (pe_tup (pa_cons (pe_lst (pa_cons pe_str (pa_cons pe_str (pa_cons (pv 4) (pa_cons pe_str (pa_cons (pe_joined (PJ.cons pe_str (PJ.cons (pe_fmt (pv 1)) (PJ.cons pe_str (PJ.cons (pe_fmt (pv 2)) PJ.nil))))) pa_nil)))))) (pa_cons pe_non pa_nil))) pa_nil))))) dl),?_⟩
 rintro σ H1 ⟨o4,o5,o6,o7,o8,o9,rfl,E1,hs0,hr0⟩
 obtain ⟨rfl,rfl⟩:=hs0 rfl
 obtain ⟨lf,rfl,ts0,hf,F⟩:=id (hr0 _ rfl)
 have E:Ev TS [] H1 H1:=Ev.refl _ _
 refine ⟨InvPl TS Hs wa wb wp wq true (some (pl04_5 wa wb wp wq)),?_,hl⟩
 walk_at "rd"
 refine ⟨by show 3≤sizeLine; decide +kernel,fun l1 n1=>?_⟩
 generalize hX:upd _ l1 _=G1
 obtain ⟨e1,g1⟩:=new_facts (TS:=TS) hX n1
 clear hX
 walk_at "rs"
 replace E:=E.trans e1 trivial
 clear n1
 replace g1:G1 l1=some (.lst (([[("guard" : Str)],[("take" : Str),wp,("spot" : Str),wa],[("else" : Str)]].map lineS).map V.str)):=by rw [g1]; simp only [List.map_cons,List.map_nil,ls1]
 walk_at "rd"
 refine ⟨by show 2≤sizeLine; decide +kernel,fun t2 n2=>?_⟩
 generalize hX:upd _ t2 _=G2
 obtain ⟨e2,g2⟩:=new_facts (TS:=TS) hX n2
 clear hX
 walk_at "rs"
 replace E:=E.trans e2 trivial
 clear n2
 have rs:RowsL G2 _ _:=.cons (r:=([[("guard" : Str)],[("take" : Str),wp,("spot" : Str),wa],[("else" : Str)]],some 3)) g2 (ev_lst e2 g1 trivial) .nil
 clear g2
 walk_at "rd"
 refine ⟨by decide +kernel,js_c (n:=20) (y:=wb) (by decide +kernel) (by omega) (by decide) (ht_v rfl (by omega)) fun q1b1=>js_c (y:=" ") q1b1 (by decide +kernel) (by decide) ht_c fun q1b2=>js_c (y:=wp) q1b2 (by omega) (by decide) (ht_v rfl (by omega)) fun q1b3=>?_⟩
 walk_at "rd"
 refine ⟨by show 5≤sizeLine; decide +kernel,fun l3 n3=>?_⟩
 generalize hX:upd _ l3 _=G3
 obtain ⟨e3,g3⟩:=new_facts (TS:=TS) hX n3
 clear hX
 walk_at "rs"
 replace E:=E.trans e3 trivial
 replace rs:=rs.ev e3
 clear n3
 replace g3:G3 l3=some (.lst (([[("maybe" : Str)],[("else" : Str)],[("take" : Str),wp,("spot" : Str),wa],[("end" : Str)],[("cut" : Str),wb,wp]].map lineS).map V.str)):=by rw [g3,fl4_15 wb wp]; simp only [List.map_cons,List.map_nil,ls1]
 walk_at "rd"
 refine ⟨by show 2≤sizeLine; decide +kernel,fun t4 n4=>?_⟩
 generalize hX:upd _ t4 _=G4
 obtain ⟨e4,g4⟩:=new_facts (TS:=TS) hX n4
 clear hX
 walk_at "rs"
 replace E:=E.trans e4 trivial
 replace rs:=rs.ev e4
 clear n4
 replace rs:=RowsL.app rs (.cons (r:=([[("maybe" : Str)],[("else" : Str)],[("take" : Str),wp,("spot" : Str),wa],[("end" : Str)],[("cut" : Str),wb,wp]],none)) g4 (ev_lst e4 g3 trivial) .nil)
 clear g4
 walk_at "rd"
 refine ⟨by show 2≤sizeLine; decide +kernel,fun o5 n5=>?_⟩
 generalize hX:upd _ o5 _=G5
 obtain ⟨e5,g5⟩:=new_facts (TS:=TS) hX n5
 clear hX
 walk_at "rs"
 replace E:=E.trans e5 trivial
 replace rs:=rs.ev e5
 clear n5
 have Fl:=F.len
 refine a_cat (TS:=TS) (ev_lst E hf trivial) g5 (by simp only [List.length_map,Fl]; exact le_line (Nat.le_of_ble_eq_true rfl)) fun lq Hq nq eq gq=>?_
 have rq:RowsQ Hq (.ref lq) (pl04_5 wa wb wp wq):=RowsQ.mk (gq.trans (by rw [show [V.ref t2,V.ref t4]=[t2,t4].map V.ref from rfl,← List.map_append]; first | done | rfl)) (((F.ev E).app rs).ev eq)
 replace E:=E.trans eq trivial
 walk_at "rd"
 exact ⟨_,_,_,_,_,_,rfl,E1.trans E trivial,(fun _=>⟨rfl,rfl⟩),(fun R e=>by cases e; exact ⟨lq,rfl,rq.get⟩)⟩
theorem pl_s4 (TS:List (Addr × Str)) {f:Addr} (cdv:Value) (A:Around) (outer:List Env) (s:Shared) (Hs H:Hp) (Q:VK) (E0:XK) (wa wb wp wq:Str) (W4:Ws04 [wa,wb,wp,wq]) (kk:∀ (r:Addr) (H':Hp),Ev TS [] Hs H'→RowsQ H' (.ref r) (pl04_11 wa wb wp wq)→Q (.ref r) H') (hr:Room 0 (A.deeper (envOfC "_law_plans" (defScope s_plans) s.heap.objs.size f cdv))):∃ t,PSs (cxOf CX0 P w K mg base ["_law_a","_law_b","_law_p","_law_q","_law_spot","_law_turn","_law_found","_law_word","_law_is_right","_law_sign"] "_law_plans" (defScope s_plans) f cdv A outer s H E0).nox ((defBody s_plans).drop 4) t∧∀ σ H',InvPl TS Hs wa wb wp wq true (some (pl04_3 wa wb wp wq)) σ H'→t { nx:=fun _ H'=>Q .non H',rt:=Q } σ H':=by
 have l_wa:=W4.len (z:=wa) (by simp)
 have l_wb:=W4.len (z:=wb) (by simp)
 have l_wp:=W4.len (z:=wp) (by simp)
 have l_wq:=W4.len (z:=wq) (by simp)
 obtain ⟨tl,dl,hl⟩:=pl_s5 TS (f:=f) (P:=P) (w:=w) (K:=K) (mg:=mg) (base:=base) cdv A outer s Hs H Q E0 wa wb wp wq W4 kk hr
 refine ⟨_,(C8.pss_cut (ps_set (i:=6) sc_plans.nd rfl (Or.inl rfl) (pe_op op_cat (pv 6) (pe_lst (pa_cons (pe_tup (pa_cons (pe_lst (pa_cons pe_str (pa_cons (pv 5) (pa_cons pe_str (pa_cons (pe_joined (PJ.cons pe_str (PJ.cons (pe_fmt (pv 0)) (PJ.cons pe_str (PJ.cons (pe_fmt (pv 2)) PJ.nil))))) pa_nil))))) (pa_cons pe_non pa_nil))) (pa_cons (pe_tup (pa_cons (pe_lst (pa_cons pe_str (pa_cons (pe_joined (PJ.cons pe_str (PJ.cons (pe_fmt (pv 0)) (PJ.cons pe_str (PJ.cons (pe_fmt (pv 2)) PJ.nil))))) (pa_cons (pv 5) (pa_cons pe_str pa_nil))))) (pa_cons pe_int pa_nil))) pa_nil))))) dl),?_⟩
 rintro σ H1 ⟨o4,o5,o6,o7,o8,o9,rfl,E1,hs0,hr0⟩
 obtain ⟨rfl,rfl⟩:=hs0 rfl
 obtain ⟨lf,rfl,ts0,hf,F⟩:=id (hr0 _ rfl)
 have E:Ev TS [] H1 H1:=Ev.refl _ _
 refine ⟨InvPl TS Hs wa wb wp wq true (some (pl04_4 wa wb wp wq)),?_,hl⟩
 walk_at "rd"
 refine ⟨by decide +kernel,js_c (n:=20) (y:=wa) (by decide +kernel) (by omega) (by decide) (ht_v rfl (by omega)) fun q1b1=>js_c (y:=" ") q1b1 (by decide +kernel) (by decide) ht_c fun q1b2=>js_c (y:=wp) q1b2 (by omega) (by decide) (ht_v rfl (by omega)) fun q1b3=>?_⟩
 walk_at "rd"
 refine ⟨by show 4≤sizeLine; decide +kernel,fun l1 n1=>?_⟩
 generalize hX:upd _ l1 _=G1
 obtain ⟨e1,g1⟩:=new_facts (TS:=TS) hX n1
 clear hX
 walk_at "rs"
 replace E:=E.trans e1 trivial
 clear n1
 replace g1:G1 l1=some (.lst (([[("maybe" : Str)],[("take" : Str),wp,("turn" : Str),wb],[("end" : Str)],[("move" : Str),wa,wp]].map lineS).map V.str)):=by rw [g1,fl4_13 wa wp]; simp only [List.map_cons,List.map_nil,ls1]
 walk_at "rd"
 refine ⟨by show 2≤sizeLine; decide +kernel,fun t2 n2=>?_⟩
 generalize hX:upd _ t2 _=G2
 obtain ⟨e2,g2⟩:=new_facts (TS:=TS) hX n2
 clear hX
 walk_at "rs"
 replace E:=E.trans e2 trivial
 clear n2
 have rs:RowsL G2 _ _:=.cons (r:=([[("maybe" : Str)],[("take" : Str),wp,("turn" : Str),wb],[("end" : Str)],[("move" : Str),wa,wp]],none)) g2 (ev_lst e2 g1 trivial) .nil
 clear g2
 walk_at "rd"
 refine ⟨by decide +kernel,js_c (n:=20) (y:=wa) (by decide +kernel) (by omega) (by decide) (ht_v rfl (by omega)) fun q2c1=>js_c (y:=" ") q2c1 (by decide +kernel) (by decide) ht_c fun q2c2=>js_c (y:=wp) q2c2 (by omega) (by decide) (ht_v rfl (by omega)) fun q2c3=>?_⟩
 walk_at "rd"
 refine ⟨by show 4≤sizeLine; decide +kernel,fun l3 n3=>?_⟩
 generalize hX:upd _ l3 _=G3
 obtain ⟨e3,g3⟩:=new_facts (TS:=TS) hX n3
 clear hX
 walk_at "rs"
 replace E:=E.trans e3 trivial
 replace rs:=rs.ev e3
 clear n3
 replace g3:G3 l3=some (.lst (([[("repeat" : Str)],[("move" : Str),wa,wp],[("take" : Str),wp,("turn" : Str),wb],[("end" : Str)]].map lineS).map V.str)):=by rw [g3,fl4_13 wa wp]; simp only [List.map_cons,List.map_nil,ls1]
 walk_at "rd"
 refine ⟨by show 2≤sizeLine; decide +kernel,fun t4 n4=>?_⟩
 generalize hX:upd _ t4 _=G4
 obtain ⟨e4,g4⟩:=new_facts (TS:=TS) hX n4
 clear hX
 walk_at "rs"
 replace E:=E.trans e4 trivial
 replace rs:=rs.ev e4
 clear n4
 replace rs:=RowsL.app rs (.cons (r:=([[("repeat" : Str)],[("move" : Str),wa,wp],[("take" : Str),wp,("turn" : Str),wb],[("end" : Str)]],some 2)) g4 (ev_lst e4 g3 trivial) .nil)
 clear g4
 walk_at "rd"
 refine ⟨by show 2≤sizeLine; decide +kernel,fun o5 n5=>?_⟩
 generalize hX:upd _ o5 _=G5
 obtain ⟨e5,g5⟩:=new_facts (TS:=TS) hX n5
 clear hX
 walk_at "rs"
 replace E:=E.trans e5 trivial
 replace rs:=rs.ev e5
 clear n5
 have Fl:=F.len
 refine a_cat (TS:=TS) (ev_lst E hf trivial) g5 (by simp only [List.length_map,Fl]; exact le_line (Nat.le_of_ble_eq_true rfl)) fun lq Hq nq eq gq=>?_
 have rq:RowsQ Hq (.ref lq) (pl04_4 wa wb wp wq):=RowsQ.mk (gq.trans (by rw [show [V.ref t2,V.ref t4]=[t2,t4].map V.ref from rfl,← List.map_append]; first | done | rfl)) (((F.ev E).app rs).ev eq)
 replace E:=E.trans eq trivial
 walk_at "rd"
 exact ⟨_,_,_,_,_,_,rfl,E1.trans E trivial,(fun _=>⟨rfl,rfl⟩),(fun R e=>by cases e; exact ⟨lq,rfl,rq.get⟩)⟩
theorem pl_s3 (TS:List (Addr × Str)) {f:Addr} (cdv:Value) (A:Around) (outer:List Env) (s:Shared) (Hs H:Hp) (Q:VK) (E0:XK) (wa wb wp wq:Str) (W4:Ws04 [wa,wb,wp,wq]) (kk:∀ (r:Addr) (H':Hp),Ev TS [] Hs H'→RowsQ H' (.ref r) (pl04_11 wa wb wp wq)→Q (.ref r) H') (hr:Room 0 (A.deeper (envOfC "_law_plans" (defScope s_plans) s.heap.objs.size f cdv))):∃ t,PSs (cxOf CX0 P w K mg base ["_law_a","_law_b","_law_p","_law_q","_law_spot","_law_turn","_law_found","_law_word","_law_is_right","_law_sign"] "_law_plans" (defScope s_plans) f cdv A outer s H E0).nox ((defBody s_plans).drop 3) t∧∀ σ H',InvPl TS Hs wa wb wp wq true (some (pl04_2 wa wb wp wq)) σ H'→t { nx:=fun _ H'=>Q .non H',rt:=Q } σ H':=by
 have l_wa:=W4.len (z:=wa) (by simp)
 have l_wb:=W4.len (z:=wb) (by simp)
 have l_wp:=W4.len (z:=wp) (by simp)
 have l_wq:=W4.len (z:=wq) (by simp)
 obtain ⟨tl,dl,hl⟩:=pl_s4 TS (f:=f) (P:=P) (w:=w) (K:=K) (mg:=mg) (base:=base) cdv A outer s Hs H Q E0 wa wb wp wq W4 kk hr
 refine ⟨_,(C8.pss_cut (ps_set (i:=6) sc_plans.nd rfl (Or.inl rfl) (pe_op op_cat (pv 6) (pe_lst (pa_cons (pe_tup (pa_cons (pe_lst (pa_cons (pv 4) (pa_cons (pe_joined (PJ.cons pe_str (PJ.cons (pe_fmt (pv 2)) (PJ.cons pe_str (PJ.cons (pe_fmt (pv 1)) (PJ.cons pe_str PJ.nil)))))) (pa_cons (pe_joined (PJ.cons pe_str (PJ.cons (pe_fmt (pv 1)) (PJ.cons pe_str (PJ.cons (pe_fmt (pv 2)) (PJ.cons pe_str PJ.nil)))))) pa_nil)))) (pa_cons pe_non pa_nil))) (pa_cons (pe_tup (pa_cons (pe_lst (pa_cons (pe_joined (PJ.cons pe_str (PJ.cons (pe_fmt (pv 0)) (PJ.cons pe_str (PJ.cons (pe_fmt (pv 2)) PJ.nil))))) (pa_cons (pv 5) pa_nil))) (pa_cons pe_int pa_nil))) pa_nil))))) dl),?_⟩
 rintro σ H1 ⟨o4,o5,o6,o7,o8,o9,rfl,E1,hs0,hr0⟩
 obtain ⟨rfl,rfl⟩:=hs0 rfl
 obtain ⟨lf,rfl,ts0,hf,F⟩:=id (hr0 _ rfl)
 have E:Ev TS [] H1 H1:=Ev.refl _ _
 refine ⟨InvPl TS Hs wa wb wp wq true (some (pl04_3 wa wb wp wq)),?_,hl⟩
 walk_at "rd"
 refine ⟨by decide +kernel,js_c (n:=20) (y:=wp) (by decide +kernel) (by omega) (by decide) (ht_v rfl (by omega)) fun q1b1=>js_c (y:=" spot ") q1b1 (by decide +kernel) (by decide) ht_c fun q1b2=>js_c (y:=wb) q1b2 (by omega) (by decide) (ht_v rfl (by omega)) fun q1b3=>js_c (y:=" != 0") q1b3 (by decide +kernel) (by decide) ht_c fun q1b4=>?_⟩
 walk_at "rd"
 refine ⟨by decide +kernel,js_c (n:=20) (y:=wb) (by decide +kernel) (by omega) (by decide) (ht_v rfl (by omega)) fun q2c1=>js_c (y:=" ") q2c1 (by decide +kernel) (by decide) ht_c fun q2c2=>js_c (y:=wp) q2c2 (by omega) (by decide) (ht_v rfl (by omega)) fun q2c3=>js_c (y:=" 0") q2c3 (by decide +kernel) (by decide) ht_c fun q2c4=>?_⟩
 walk_at "rd"
 refine ⟨by show 3≤sizeLine; decide +kernel,fun l1 n1=>?_⟩
 generalize hX:upd _ l1 _=G1
 obtain ⟨e1,g1⟩:=new_facts (TS:=TS) hX n1
 clear hX
 walk_at "rs"
 replace E:=E.trans e1 trivial
 clear n1
 replace g1:G1 l1=some (.lst (([[("take" : Str),wp,("spot" : Str),wa],[("take" : Str),wp,("spot" : Str),wb,("!=" : Str),("0" : Str)],[("set" : Str),wb,wp,("0" : Str)]].map lineS).map V.str)):=by rw [g1,fl4_16 wp wb,fl4_17 wb wp]; simp only [List.map_cons,List.map_nil,ls1]
 walk_at "rd"
 refine ⟨by show 2≤sizeLine; decide +kernel,fun t2 n2=>?_⟩
 generalize hX:upd _ t2 _=G2
 obtain ⟨e2,g2⟩:=new_facts (TS:=TS) hX n2
 clear hX
 walk_at "rs"
 replace E:=E.trans e2 trivial
 clear n2
 have rs:RowsL G2 _ _:=.cons (r:=([[("take" : Str),wp,("spot" : Str),wa],[("take" : Str),wp,("spot" : Str),wb,("!=" : Str),("0" : Str)],[("set" : Str),wb,wp,("0" : Str)]],none)) g2 (ev_lst e2 g1 trivial) .nil
 clear g2
 walk_at "rd"
 refine ⟨by decide +kernel,js_c (n:=20) (y:=wa) (by decide +kernel) (by omega) (by decide) (ht_v rfl (by omega)) fun q3d1=>js_c (y:=" ") q3d1 (by decide +kernel) (by decide) ht_c fun q3d2=>js_c (y:=wp) q3d2 (by omega) (by decide) (ht_v rfl (by omega)) fun q3d3=>?_⟩
 walk_at "rd"
 refine ⟨by show 2≤sizeLine; decide +kernel,fun l3 n3=>?_⟩
 generalize hX:upd _ l3 _=G3
 obtain ⟨e3,g3⟩:=new_facts (TS:=TS) hX n3
 clear hX
 walk_at "rs"
 replace E:=E.trans e3 trivial
 replace rs:=rs.ev e3
 clear n3
 replace g3:G3 l3=some (.lst (([[("move" : Str),wa,wp],[("take" : Str),wp,("turn" : Str),wb]].map lineS).map V.str)):=by rw [g3,fl4_13 wa wp]; simp only [List.map_cons,List.map_nil,ls1]
 walk_at "rd"
 refine ⟨by show 2≤sizeLine; decide +kernel,fun t4 n4=>?_⟩
 generalize hX:upd _ t4 _=G4
 obtain ⟨e4,g4⟩:=new_facts (TS:=TS) hX n4
 clear hX
 walk_at "rs"
 replace E:=E.trans e4 trivial
 replace rs:=rs.ev e4
 clear n4
 replace rs:=RowsL.app rs (.cons (r:=([[("move" : Str),wa,wp],[("take" : Str),wp,("turn" : Str),wb]],some 1)) g4 (ev_lst e4 g3 trivial) .nil)
 clear g4
 walk_at "rd"
 refine ⟨by show 2≤sizeLine; decide +kernel,fun o5 n5=>?_⟩
 generalize hX:upd _ o5 _=G5
 obtain ⟨e5,g5⟩:=new_facts (TS:=TS) hX n5
 clear hX
 walk_at "rs"
 replace E:=E.trans e5 trivial
 replace rs:=rs.ev e5
 clear n5
 have Fl:=F.len
 refine a_cat (TS:=TS) (ev_lst E hf trivial) g5 (by simp only [List.length_map,Fl]; exact le_line (Nat.le_of_ble_eq_true rfl)) fun lq Hq nq eq gq=>?_
 have rq:RowsQ Hq (.ref lq) (pl04_3 wa wb wp wq):=RowsQ.mk (gq.trans (by rw [show [V.ref t2,V.ref t4]=[t2,t4].map V.ref from rfl,← List.map_append]; first | done | rfl)) (((F.ev E).app rs).ev eq)
 replace E:=E.trans eq trivial
 walk_at "rd"
 exact ⟨_,_,_,_,_,_,rfl,E1.trans E trivial,(fun _=>⟨rfl,rfl⟩),(fun R e=>by cases e; exact ⟨lq,rfl,rq.get⟩)⟩
theorem pl_s2 (TS:List (Addr × Str)) {f:Addr} (cdv:Value) (A:Around) (outer:List Env) (s:Shared) (Hs H:Hp) (Q:VK) (E0:XK) (wa wb wp wq:Str) (W4:Ws04 [wa,wb,wp,wq]) (kk:∀ (r:Addr) (H':Hp),Ev TS [] Hs H'→RowsQ H' (.ref r) (pl04_11 wa wb wp wq)→Q (.ref r) H') (hr:Room 0 (A.deeper (envOfC "_law_plans" (defScope s_plans) s.heap.objs.size f cdv))):∃ t,PSs (cxOf CX0 P w K mg base ["_law_a","_law_b","_law_p","_law_q","_law_spot","_law_turn","_law_found","_law_word","_law_is_right","_law_sign"] "_law_plans" (defScope s_plans) f cdv A outer s H E0).nox ((defBody s_plans).drop 2) t∧∀ σ H',InvPl TS Hs wa wb wp wq true (some (pl04_1 wa wb wp wq)) σ H'→t { nx:=fun _ H'=>Q .non H',rt:=Q } σ H':=by
 have l_wa:=W4.len (z:=wa) (by simp)
 have l_wb:=W4.len (z:=wb) (by simp)
 have l_wp:=W4.len (z:=wp) (by simp)
 have l_wq:=W4.len (z:=wq) (by simp)
 obtain ⟨tl,dl,hl⟩:=pl_s3 TS (f:=f) (P:=P) (w:=w) (K:=K) (mg:=mg) (base:=base) cdv A outer s Hs H Q E0 wa wb wp wq W4 kk hr
 refine ⟨_,(C8.pss_cut (ps_set (i:=6) sc_plans.nd rfl (Or.inl rfl) (pe_op op_cat (pv 6) (pe_lst (pa_cons (pe_tup (pa_cons (pe_lst (pa_cons (pv 4) (pa_cons (pv 5) pa_nil))) (pa_cons pe_int pa_nil))) (pa_cons (pe_tup (pa_cons (pe_lst (pa_cons (pv 5) (pa_cons (pv 4) pa_nil))) (pa_cons pe_int pa_nil))) (pa_cons (pe_tup (pa_cons (pe_lst (pa_cons (pv 5) (pa_cons (pe_joined (PJ.cons pe_str (PJ.cons (pe_fmt (pv 2)) (PJ.cons pe_str (PJ.cons (pe_fmt (pv 0)) (PJ.cons pe_str PJ.nil)))))) (pa_cons (pe_joined (PJ.cons pe_str (PJ.cons (pe_fmt (pv 1)) (PJ.cons pe_str (PJ.cons (pe_fmt (pv 2)) PJ.nil))))) pa_nil)))) (pa_cons pe_non pa_nil))) pa_nil)))))) dl),?_⟩
 rintro σ H1 ⟨o4,o5,o6,o7,o8,o9,rfl,E1,hs0,hr0⟩
 obtain ⟨rfl,rfl⟩:=hs0 rfl
 obtain ⟨lf,rfl,ts0,hf,F⟩:=id (hr0 _ rfl)
 have E:Ev TS [] H1 H1:=Ev.refl _ _
 refine ⟨InvPl TS Hs wa wb wp wq true (some (pl04_2 wa wb wp wq)),?_,hl⟩
 walk_at "rd"
 refine ⟨by show 2≤sizeLine; decide +kernel,fun l1 n1=>?_⟩
 generalize hX:upd _ l1 _=G1
 obtain ⟨e1,g1⟩:=new_facts (TS:=TS) hX n1
 clear hX
 walk_at "rs"
 replace E:=E.trans e1 trivial
 clear n1
 replace g1:G1 l1=some (.lst (([[("take" : Str),wp,("spot" : Str),wa],[("take" : Str),wp,("turn" : Str),wb]].map lineS).map V.str)):=by rw [g1]; simp only [List.map_cons,List.map_nil,ls1]
 walk_at "rd"
 refine ⟨by show 2≤sizeLine; decide +kernel,fun t2 n2=>?_⟩
 generalize hX:upd _ t2 _=G2
 obtain ⟨e2,g2⟩:=new_facts (TS:=TS) hX n2
 clear hX
 walk_at "rs"
 replace E:=E.trans e2 trivial
 clear n2
 have rs:RowsL G2 _ _:=.cons (r:=([[("take" : Str),wp,("spot" : Str),wa],[("take" : Str),wp,("turn" : Str),wb]],some 2)) g2 (ev_lst e2 g1 trivial) .nil
 clear g2
 walk_at "rd"
 refine ⟨by show 2≤sizeLine; decide +kernel,fun l3 n3=>?_⟩
 generalize hX:upd _ l3 _=G3
 obtain ⟨e3,g3⟩:=new_facts (TS:=TS) hX n3
 clear hX
 walk_at "rs"
 replace E:=E.trans e3 trivial
 replace rs:=rs.ev e3
 clear n3
 replace g3:G3 l3=some (.lst (([[("take" : Str),wp,("turn" : Str),wb],[("take" : Str),wp,("spot" : Str),wa]].map lineS).map V.str)):=by rw [g3]; simp only [List.map_cons,List.map_nil,ls1]
 walk_at "rd"
 refine ⟨by show 2≤sizeLine; decide +kernel,fun t4 n4=>?_⟩
 generalize hX:upd _ t4 _=G4
 obtain ⟨e4,g4⟩:=new_facts (TS:=TS) hX n4
 clear hX
 walk_at "rs"
 replace E:=E.trans e4 trivial
 replace rs:=rs.ev e4
 clear n4
 replace rs:=RowsL.app rs (.cons (r:=([[("take" : Str),wp,("turn" : Str),wb],[("take" : Str),wp,("spot" : Str),wa]],some 2)) g4 (ev_lst e4 g3 trivial) .nil)
 clear g4
 walk_at "rd"
 refine ⟨by decide +kernel,js_c (n:=20) (y:=wp) (by decide +kernel) (by omega) (by decide) (ht_v rfl (by omega)) fun q1b1=>js_c (y:=" new ") q1b1 (by decide +kernel) (by decide) ht_c fun q1b2=>js_c (y:=wa) q1b2 (by omega) (by decide) (ht_v rfl (by omega)) fun q1b3=>js_c (y:=" any") q1b3 (by decide +kernel) (by decide) ht_c fun q1b4=>?_⟩
 walk_at "rd"
 refine ⟨by decide +kernel,js_c (n:=20) (y:=wb) (by decide +kernel) (by omega) (by decide) (ht_v rfl (by omega)) fun q2c1=>js_c (y:=" ") q2c1 (by decide +kernel) (by decide) ht_c fun q2c2=>js_c (y:=wp) q2c2 (by omega) (by decide) (ht_v rfl (by omega)) fun q2c3=>?_⟩
 walk_at "rd"
 refine ⟨by show 3≤sizeLine; decide +kernel,fun l5 n5=>?_⟩
 generalize hX:upd _ l5 _=G5
 obtain ⟨e5,g5⟩:=new_facts (TS:=TS) hX n5
 clear hX
 walk_at "rs"
 replace E:=E.trans e5 trivial
 replace rs:=rs.ev e5
 clear n5
 replace g5:G5 l5=some (.lst (([[("take" : Str),wp,("turn" : Str),wb],[("take" : Str),wp,("new" : Str),wa,("any" : Str)],[("move" : Str),wb,wp]].map lineS).map V.str)):=by rw [g5,fl4_18 wp wa,fl4_13 wb wp]; simp only [List.map_cons,List.map_nil,ls1]
 walk_at "rd"
 refine ⟨by show 2≤sizeLine; decide +kernel,fun t6 n6=>?_⟩
 generalize hX:upd _ t6 _=G6
 obtain ⟨e6,g6⟩:=new_facts (TS:=TS) hX n6
 clear hX
 walk_at "rs"
 replace E:=E.trans e6 trivial
 replace rs:=rs.ev e6
 clear n6
 replace rs:=RowsL.app rs (.cons (r:=([[("take" : Str),wp,("turn" : Str),wb],[("take" : Str),wp,("new" : Str),wa,("any" : Str)],[("move" : Str),wb,wp]],none)) g6 (ev_lst e6 g5 trivial) .nil)
 clear g6
 walk_at "rd"
 refine ⟨by show 3≤sizeLine; decide +kernel,fun o7 n7=>?_⟩
 generalize hX:upd _ o7 _=G7
 obtain ⟨e7,g7⟩:=new_facts (TS:=TS) hX n7
 clear hX
 walk_at "rs"
 replace E:=E.trans e7 trivial
 replace rs:=rs.ev e7
 clear n7
 have Fl:=F.len
 refine a_cat (TS:=TS) (ev_lst E hf trivial) g7 (by simp only [List.length_map,Fl]; exact le_line (Nat.le_of_ble_eq_true rfl)) fun lq Hq nq eq gq=>?_
 have rq:RowsQ Hq (.ref lq) (pl04_2 wa wb wp wq):=RowsQ.mk (gq.trans (by rw [show [V.ref t2,V.ref t4,V.ref t6]=[t2,t4,t6].map V.ref from rfl,← List.map_append]; first | done | rfl)) (((F.ev E).app rs).ev eq)
 replace E:=E.trans eq trivial
 walk_at "rd"
 exact ⟨_,_,_,_,_,_,rfl,E1.trans E trivial,(fun _=>⟨rfl,rfl⟩),(fun R e=>by cases e; exact ⟨lq,rfl,rq.get⟩)⟩
theorem pl_s1 (TS:List (Addr × Str)) {f:Addr} (cdv:Value) (A:Around) (outer:List Env) (s:Shared) (Hs H:Hp) (Q:VK) (E0:XK) (wa wb wp wq:Str) (W4:Ws04 [wa,wb,wp,wq]) (kk:∀ (r:Addr) (H':Hp),Ev TS [] Hs H'→RowsQ H' (.ref r) (pl04_11 wa wb wp wq)→Q (.ref r) H') (hr:Room 0 (A.deeper (envOfC "_law_plans" (defScope s_plans) s.heap.objs.size f cdv))):∃ t,PSs (cxOf CX0 P w K mg base ["_law_a","_law_b","_law_p","_law_q","_law_spot","_law_turn","_law_found","_law_word","_law_is_right","_law_sign"] "_law_plans" (defScope s_plans) f cdv A outer s H E0).nox ((defBody s_plans).drop 1) t∧∀ σ H',InvPl TS Hs wa wb wp wq true none σ H'→t { nx:=fun _ H'=>Q .non H',rt:=Q } σ H':=by
 have l_wa:=W4.len (z:=wa) (by simp)
 have l_wb:=W4.len (z:=wb) (by simp)
 have l_wp:=W4.len (z:=wp) (by simp)
 have l_wq:=W4.len (z:=wq) (by simp)
 obtain ⟨tl,dl,hl⟩:=pl_s2 TS (f:=f) (P:=P) (w:=w) (K:=K) (mg:=mg) (base:=base) cdv A outer s Hs H Q E0 wa wb wp wq W4 kk hr
 refine ⟨_,(C8.pss_cut (ps_set (i:=6) sc_plans.nd rfl (Or.inl rfl) (pe_lst (pa_cons (pe_tup (pa_cons (pe_lst (pa_cons (pv 4) (pa_cons (pe_joined (PJ.cons pe_str (PJ.cons (pe_fmt (pv 0)) (PJ.cons pe_str (PJ.cons (pe_fmt (pv 2)) PJ.nil))))) pa_nil))) (pa_cons pe_int pa_nil))) (pa_cons (pe_tup (pa_cons (pe_lst (pa_cons (pv 5) (pa_cons (pe_joined (PJ.cons pe_str (PJ.cons (pe_fmt (pv 0)) (PJ.cons pe_str (PJ.cons (pe_fmt (pv 2)) PJ.nil))))) pa_nil))) (pa_cons pe_int pa_nil))) (pa_cons (pe_tup (pa_cons (pe_lst (pa_cons (pv 5) (pa_cons (pe_joined (PJ.cons pe_str (PJ.cons (pe_fmt (pv 0)) (PJ.cons pe_str (PJ.cons (pe_fmt (pv 2)) (PJ.cons pe_str PJ.nil)))))) pa_nil))) (pa_cons pe_int pa_nil))) pa_nil))))) dl),?_⟩
 rintro σ H1 ⟨o4,o5,o6,o7,o8,o9,rfl,E1,hs0,hr0⟩
 obtain ⟨rfl,rfl⟩:=hs0 rfl
 have E:Ev TS [] H1 H1:=Ev.refl _ _
 refine ⟨InvPl TS Hs wa wb wp wq true (some (pl04_1 wa wb wp wq)),?_,hl⟩
 walk_at "rd"
 refine ⟨by decide +kernel,js_c (n:=20) (y:=wa) (by decide +kernel) (by omega) (by decide) (ht_v rfl (by omega)) fun q1b1=>js_c (y:=" ") q1b1 (by decide +kernel) (by decide) ht_c fun q1b2=>js_c (y:=wp) q1b2 (by omega) (by decide) (ht_v rfl (by omega)) fun q1b3=>?_⟩
 walk_at "rd"
 refine ⟨by show 2≤sizeLine; decide +kernel,fun l1 n1=>?_⟩
 generalize hX:upd _ l1 _=G1
 obtain ⟨e1,g1⟩:=new_facts (TS:=TS) hX n1
 clear hX
 walk_at "rs"
 replace E:=E.trans e1 trivial
 clear n1
 replace g1:G1 l1=some (.lst (([[("take" : Str),wp,("spot" : Str),wa],[("move" : Str),wa,wp]].map lineS).map V.str)):=by rw [g1,fl4_13 wa wp]; simp only [List.map_cons,List.map_nil,ls1]
 walk_at "rd"
 refine ⟨by show 2≤sizeLine; decide +kernel,fun t2 n2=>?_⟩
 generalize hX:upd _ t2 _=G2
 obtain ⟨e2,g2⟩:=new_facts (TS:=TS) hX n2
 clear hX
 walk_at "rs"
 replace E:=E.trans e2 trivial
 clear n2
 have rs:RowsL G2 _ _:=.cons (r:=([[("take" : Str),wp,("spot" : Str),wa],[("move" : Str),wa,wp]],some 2)) g2 (ev_lst e2 g1 trivial) .nil
 clear g2
 walk_at "rd"
 refine ⟨by decide +kernel,js_c (n:=20) (y:=wa) (by decide +kernel) (by omega) (by decide) (ht_v rfl (by omega)) fun q2c1=>js_c (y:=" ") q2c1 (by decide +kernel) (by decide) ht_c fun q2c2=>js_c (y:=wp) q2c2 (by omega) (by decide) (ht_v rfl (by omega)) fun q2c3=>?_⟩
 walk_at "rd"
 refine ⟨by show 2≤sizeLine; decide +kernel,fun l3 n3=>?_⟩
 generalize hX:upd _ l3 _=G3
 obtain ⟨e3,g3⟩:=new_facts (TS:=TS) hX n3
 clear hX
 walk_at "rs"
 replace E:=E.trans e3 trivial
 replace rs:=rs.ev e3
 clear n3
 replace g3:G3 l3=some (.lst (([[("take" : Str),wp,("turn" : Str),wb],[("cut" : Str),wa,wp]].map lineS).map V.str)):=by rw [g3,fl4_15 wa wp]; simp only [List.map_cons,List.map_nil,ls1]
 walk_at "rd"
 refine ⟨by show 2≤sizeLine; decide +kernel,fun t4 n4=>?_⟩
 generalize hX:upd _ t4 _=G4
 obtain ⟨e4,g4⟩:=new_facts (TS:=TS) hX n4
 clear hX
 walk_at "rs"
 replace E:=E.trans e4 trivial
 replace rs:=rs.ev e4
 clear n4
 replace rs:=RowsL.app rs (.cons (r:=([[("take" : Str),wp,("turn" : Str),wb],[("cut" : Str),wa,wp]],some 2)) g4 (ev_lst e4 g3 trivial) .nil)
 clear g4
 walk_at "rd"
 refine ⟨by decide +kernel,js_c (n:=20) (y:=wa) (by decide +kernel) (by omega) (by decide) (ht_v rfl (by omega)) fun q3d1=>js_c (y:=" ") q3d1 (by decide +kernel) (by decide) ht_c fun q3d2=>js_c (y:=wp) q3d2 (by omega) (by decide) (ht_v rfl (by omega)) fun q3d3=>js_c (y:=" 5") q3d3 (by decide +kernel) (by decide) ht_c fun q3d4=>?_⟩
 walk_at "rd"
 refine ⟨by show 2≤sizeLine; decide +kernel,fun l5 n5=>?_⟩
 generalize hX:upd _ l5 _=G5
 obtain ⟨e5,g5⟩:=new_facts (TS:=TS) hX n5
 clear hX
 walk_at "rs"
 replace E:=E.trans e5 trivial
 replace rs:=rs.ev e5
 clear n5
 replace g5:G5 l5=some (.lst (([[("take" : Str),wp,("turn" : Str),wb],[("set" : Str),wa,wp,("5" : Str)]].map lineS).map V.str)):=by rw [g5,fl4_19 wa wp]; simp only [List.map_cons,List.map_nil,ls1]
 walk_at "rd"
 refine ⟨by show 2≤sizeLine; decide +kernel,fun t6 n6=>?_⟩
 generalize hX:upd _ t6 _=G6
 obtain ⟨e6,g6⟩:=new_facts (TS:=TS) hX n6
 clear hX
 walk_at "rs"
 replace E:=E.trans e6 trivial
 replace rs:=rs.ev e6
 clear n6
 replace rs:=RowsL.app rs (.cons (r:=([[("take" : Str),wp,("turn" : Str),wb],[("set" : Str),wa,wp,("5" : Str)]],some 2)) g6 (ev_lst e6 g5 trivial) .nil)
 clear g6
 walk_at "rd"
 refine ⟨by show 3≤sizeLine; decide +kernel,fun o7 n7=>?_⟩
 generalize hX:upd _ o7 _=G7
 obtain ⟨e7,g7⟩:=new_facts (TS:=TS) hX n7
 clear hX
 walk_at "rs"
 replace E:=E.trans e7 trivial
 replace rs:=rs.ev e7
 clear n7
 walk_at "rd"
 exact ⟨_,_,_,_,_,_,rfl,E1.trans E trivial,(fun _=>⟨rfl,rfl⟩),(fun R e=>by cases e; exact ⟨_,rfl,[t2,t4,t6],g7,rs⟩)⟩
theorem pl_s0 (TS:List (Addr × Str)) {f:Addr} (cdv:Value) (A:Around) (outer:List Env) (s:Shared) (Hs H:Hp) (Q:VK) (E0:XK) (wa wb wp wq:Str) (W4:Ws04 [wa,wb,wp,wq]) (kk:∀ (r:Addr) (H':Hp),Ev TS [] Hs H'→RowsQ H' (.ref r) (pl04_11 wa wb wp wq)→Q (.ref r) H') (hr:Room 0 (A.deeper (envOfC "_law_plans" (defScope s_plans) s.heap.objs.size f cdv))):∃ t,PSs (cxOf CX0 P w K mg base ["_law_a","_law_b","_law_p","_law_q","_law_spot","_law_turn","_law_found","_law_word","_law_is_right","_law_sign"] "_law_plans" (defScope s_plans) f cdv A outer s H E0).nox ((defBody s_plans).drop 0) t∧∀ σ H',InvPl TS Hs wa wb wp wq false none σ H'→t { nx:=fun _ H'=>Q .non H',rt:=Q } σ H':=by
 have l_wa:=W4.len (z:=wa) (by simp)
 have l_wb:=W4.len (z:=wb) (by simp)
 have l_wp:=W4.len (z:=wp) (by simp)
 have l_wq:=W4.len (z:=wq) (by simp)
 obtain ⟨tl,dl,hl⟩:=pl_s1 TS (f:=f) (P:=P) (w:=w) (K:=K) (mg:=mg) (base:=base) cdv A outer s Hs H Q E0 wa wb wp wq W4 kk hr
 refine ⟨_,(C8.pss_cut (ps_par (i:=4) (j:=5) (by rfl) sc_plans.nd rfl rfl (by decide) rfl rfl (pa_cons (pe_joined (PJ.cons pe_str (PJ.cons (pe_fmt (pv 2)) (PJ.cons pe_str (PJ.cons (pe_fmt (pv 0)) PJ.nil))))) (pa_cons (pe_joined (PJ.cons pe_str (PJ.cons (pe_fmt (pv 2)) (PJ.cons pe_str (PJ.cons (pe_fmt (pv 1)) PJ.nil))))) pa_nil)) (by rfl)) dl),?_⟩
 rintro σ H1 ⟨o4,o5,o6,o7,o8,o9,rfl,E1,hs0,hr0⟩
 refine ⟨InvPl TS Hs wa wb wp wq true none,?_,hl⟩
 walk_at "rd"
 refine ⟨by decide +kernel,js_c (n:=20) (y:=wp) (by decide +kernel) (by omega) (by decide) (ht_v rfl (by omega)) fun q1a1=>js_c (y:=" spot ") q1a1 (by decide +kernel) (by decide) ht_c fun q1a2=>js_c (y:=wa) q1a2 (by omega) (by decide) (ht_v rfl (by omega)) fun q1a3=>?_⟩
 walk_at "rd"
 refine ⟨by decide +kernel,js_c (n:=20) (y:=wp) (by decide +kernel) (by omega) (by decide) (ht_v rfl (by omega)) fun q2b1=>js_c (y:=" turn ") q2b1 (by decide +kernel) (by decide) ht_c fun q2b2=>js_c (y:=wb) q2b2 (by omega) (by decide) (ht_v rfl (by omega)) fun q2b3=>?_⟩
 refine ⟨_,_,rfl,?_⟩
 exact ⟨_,_,_,_,_,_,rfl,E1,(fun _=>⟨congrArg (fun z=>some (V.str z)) (fl4_sp wp wa),congrArg (fun z=>some (V.str z)) (fl4_tu wp wb)⟩),(fun _ e=>by cases e)⟩
theorem ok_plans {TS:List (Addr × Str)} {f:Addr} {fd:FuncData} (F:Fun K "_law_plans" "_law_plans" s_plans f fd):FnR P w K mg base CX0 1 f (spPlans4 TS):=by
 refine fnr F sc_plans (fun vs H Q E h=>?_) (fun _ _ _ _ _ _ us hl=>match us,hl with | [_,_,_,_],_=>rfl) (fun cdv A outer s H vs Q E hr h=>?_)
 ·obtain ⟨a,b,p,q,rfl,_⟩:=h
  rfl
 ·obtain ⟨wa,wb,wp,wq,rfl,W4,k⟩:=h
  obtain ⟨t,d,h⟩:=pl_s0 TS (f:=f) cdv A outer s H H Q E wa wb wp wq W4 k hr
  refine ⟨_,d,?_⟩
  exact h _ _ ⟨none,none,none,none,none,none,rfl,Ev.refl _ _,(fun e=>by cases e),(fun _ e=>by cases e)⟩
end
def spKept4 (TS:List (Addr × Str)):Sp:=fun vs H Q _=>∃ (z:Str) (c:Nat),vs=[.str z,.str ⟨#[c]⟩]∧z∈keptL∧c∈LET.cps.toList∧∀ H',Ev TS [] H H'→Q (.bl true) H'
structure Nm04 (y:Str) (ok:Bool):Prop where
 len:y.length≤20
 tx:∀ T∈kp04 y,txB T=true
 r0:badN (readE ((kp04 y).getD 0 []))=if ok=true then none else some 0
 r1:∀ T∈(kp04 y).drop 1,badN (readE T)=if ok=true then none else some 1
 kp:fstBad [] 0 [("zeal" : Str),y]=if ok=true then none else some 1
theorem kept_len:∀ z∈keptL,z.length≤8:=by decide +kernel
theorem nm04_k {z:Str} (hz:z∈keptL):Nm04 z false:=by
 obtain ⟨h1,h2,h3,h4⟩:=kept04 hz
 refine ⟨by have:=kept_len z hz; omega,h2,h3,h4,?_⟩
 show (if wordB "zeal"=false∨("zeal" : Str)∈[] then some 0 else if wordB z=false∨z∈[("zeal" : Str)] then some 1 else none)=some 1
 rw [if_neg (by decide +kernel),if_pos (.inl h1)]
theorem nm04_w {z:Str} {c:Nat} (hz:z∈keptL) (hc:c∈LET.cps.toList):Nm04 (z ++ ⟨#[c]⟩) true:=by
 obtain ⟨h1,h2,h3⟩:=word04 hz hc
 have hl:(z++(⟨#[c]⟩ : Str)).length≤20:=by
  rw [app_lenS]
  have:=kept_len z hz
  show z.length+1≤20
  omega
 generalize z++(⟨#[c]⟩ : Str)=y at h1 h2 h3 hl
 refine ⟨hl,fun T hT=>(h3 T hT).1,(h3 _ (by show [[("lists" : Str),y]]∈kp04 y; exact .head _)).2,fun T hT=>(h3 T (List.mem_of_mem_drop hT)).2,?_⟩
 show (if wordB "zeal"=false∨("zeal" : Str)∈[] then some 0 else if wordB y=false∨y∈[("zeal" : Str)] then some 1 else none)=none
 rw [if_neg (by decide +kernel),if_neg (by
  rintro (e | e)
  ·rw [h1] at e; cases e
  ·exact h2 (List.mem_singleton.mp e).symm)]
def rest4 (y:Str):List Str:=[Str.empty ++ "lists " ++ y,Str.empty ++ "define " ++ y ++ " zest\nend",Str.empty ++ "take " ++ y ++ " turn zeal",Str.empty ++ "define zone " ++ y ++ "\nend"]
theorem rest4_txt (y:Str):∀ (i:Nat) (x:Str),(rest4 y)[i]? = some x→∃ T∈(kp04 y).drop 1,Txt.join nl1 [("lists zeal" : Str),x]=Txt.join nl1 (T.map lineS):=fun i x h=>by
 match i,h with
 | 0,h =>
  cases h
  refine ⟨[[("lists" : Str),("zeal" : Str)],[("lists" : Str),y]],.head _,str_ext ?_⟩
  rw [show ([[("lists" : Str),("zeal" : Str)],[("lists" : Str),y]].map lineS)=[Txt.join sp1 [("lists" : Str),"zeal"],Txt.join sp1 [("lists" : Str),y]] from rfl]
  simp only [tj1,tj2,app_cps,List.append_assoc]
  kernel_rfl
 | 1,h =>
  cases h
  refine ⟨[[("lists" : Str),("zeal" : Str)],[("define" : Str),y,("zest" : Str)],[("end" : Str)]],.tail _ (.head _),str_ext ?_⟩
  rw [show ([[("lists" : Str),("zeal" : Str)],[("define" : Str),y,("zest" : Str)],[("end" : Str)]].map lineS)=[Txt.join sp1 [("lists" : Str),"zeal"],Txt.join sp1 [("define" : Str),y,"zest"],Txt.join sp1 [("end" : Str)]] from rfl]
  simp only [tj1,tj2,app_cps,List.append_assoc]
  kernel_rfl
 | 2,h =>
  cases h
  refine ⟨[[("lists" : Str),("zeal" : Str)],[("take" : Str),y,("turn" : Str),("zeal" : Str)]],.tail _ (.tail _ (.head _)),str_ext ?_⟩
  rw [show ([[("lists" : Str),("zeal" : Str)],[("take" : Str),y,("turn" : Str),("zeal" : Str)]].map lineS)=[Txt.join sp1 [("lists" : Str),"zeal"],Txt.join sp1 [("take" : Str),y,"turn","zeal"]] from rfl]
  simp only [tj1,tj2,app_cps,List.append_assoc]
  kernel_rfl
 | 3,h =>
  cases h
  refine ⟨[[("lists" : Str),("zeal" : Str)],[("define" : Str),("zone" : Str),y],[("end" : Str)]],.tail _ (.tail _ (.tail _ (.head _))),str_ext ?_⟩
  rw [show ([[("lists" : Str),("zeal" : Str)],[("define" : Str),("zone" : Str),y],[("end" : Str)]].map lineS)=[Txt.join sp1 [("lists" : Str),"zeal"],Txt.join sp1 [("define" : Str),"zone",y],Txt.join sp1 [("end" : Str)]] from rfl]
  simp only [tj1,tj2,app_cps,List.append_assoc]
  kernel_rfl
 | i+4,h=>simp [rest4] at h
theorem tjs0 {acc:Str} {σ:L2.St} {H:Hp} {Q:Str→Hp→Prop} (h:Q acc H):tJs [] acc σ H Q:=h
theorem eqv4 (o:Option Nat):∃ d:PyData,(∀ (K:PySem.W.Frag) (H:Hp),Dp K H (dueO o) d)∧SeqAt.shaped d=true∧PyData.eqv d d=true:=by
 cases o with
 | none=>exact ⟨.none,fun _ _=>.non,by decide +kernel,by decide +kernel⟩
 | some i =>
  have h:SeqAt.shaped (PyData.int (i:Int))=true:=rfl
  refine ⟨.int (i:Int),fun _ _=>.int _,h,SeqAt.eqv_refl _ ?_⟩
  have h2:=h
  unfold SeqAt.shaped at h2
  rw [Bool.and_eq_true] at h2
  exact h2.1
theorem a_ne4 {K:PySem.W.Frag} {H:Hp} {o:Option Nat} {Q:VK} (k:Q (.bl false) H):rNeD K (dueO o) (dueO o) H Q:=by
 obtain ⟨d,h1,h2,h3⟩:=eqv4 o
 refine a_neD (h1 K H) (h1 K H) h2 h2 ?_
 rw [h3]
 exact k
theorem a_eq4 {K:PySem.W.Frag} {H:Hp} {o:Option Nat} {Q:VK} (k:Q (.bl true) H):rEqD K (dueO o) (dueO o) H Q:=by
 obtain ⟨d,h1,h2,h3⟩:=eqv4 o
 refine a_eqD (h1 K H) (h1 K H) h2 h2 ?_
 rw [h3]
 exact k
theorem ref_of {TS:List (Addr × Str)} {H:Hp} {p:Addr} {ss:List Str} {T:List Ps} {o:Option Nat} {Q:VK} {E:XK} (hp:H p=some (.lst (ss.map V.str))) (e:Txt.join nl1 ss=Txt.join nl1 (T.map lineS)) (ht:txB T=true) (hr:badN (readE T)=o) (k:∀ H',Ev TS [] H H'→Q (dueO o) H'):spRef04 TS [.ref p] H Q E:=by
 obtain ⟨l1,l2⟩:=tx_lines ht
 refine ⟨p,ss,rfl,hp,by rw [e]; exact l2,fun H' e'=>?_⟩
 rw [e,l1,hr]
 exact k H' e'
section
variable {P:Program} {w:World} {K:PySem.W.Frag} {mg:Str→Option Value} {base:Heap} {TS:List (Addr × Str)}
theorem sc_kept_right:FnScope ["_law_word","_law_letter","_law_name","_law_is_right","_law_rest","_law_text"] ["_law_word","_law_letter"] (defScope s_kept_right):=⟨rfl,rfl,rfl,by decide +kernel,rfl,by decide +kernel,by decide +kernel⟩
theorem ok_kept_right {f:Addr} {fd:FuncData} (F:Fun K "_law_kept_right" "_law_kept_right" s_kept_right f fd) (T:Blt mg) (Drefused:Cl P w K mg base CX0 7 "_law_refused" (spRef04 TS)) (Dkeeper_refused:Cl P w K mg base CX0 8 "_law_keeper_refused" (spKRef04 TS)):FnR P w K mg base CX0 9 f (spKept4 TS):=by
 refine fnr F sc_kept_right (fun vs H Q E h=>?_) (fun _ _ _ _ _ _ us hl=>match us,hl with | [_,_],_=>rfl) (fun cdv A outer s H vs Q E hr h=>?_)
 ·obtain ⟨z,c,rfl,_⟩:=h
  rfl
 ·obtain ⟨z,c,rfl,hz,hc,k⟩:=h
  have zl:=kept_len z hz
  refine ⟨_,(pss_cons (ps_for PassesOwn.never rfl (pi_tup (pe_tup (pa_cons (pe_tup (pa_cons (pv 0) (pa_cons pe_bl pa_nil))) (pa_cons (pe_tup (pa_cons (pe_op op_add_str (pv 0) (pv 1)) (pa_cons pe_bl pa_nil))) pa_nil)))) (pg_tup rfl (pgs_cons (pg_name (i:=2) sc_kept_right.nd rfl (Or.inl rfl)) (pgs_cons (pg_name (i:=3) sc_kept_right.nd rfl (Or.inl rfl)) pgs_nil)))
    (pss_cons (ps_set (i:=4) sc_kept_right.nd rfl (Or.inl rfl) (pe_lst (pa_cons (pe_joined (PJ.cons pe_str (PJ.cons (pe_fmt (pv 2)) PJ.nil))) (pa_cons (pe_joined (PJ.cons pe_str (PJ.cons (pe_fmt (pv 2)) (PJ.cons pe_str PJ.nil)))) (pa_cons (pe_joined (PJ.cons pe_str (PJ.cons (pe_fmt (pv 2)) (PJ.cons pe_str PJ.nil)))) pa_nil)))))
    (pss_cons (ps_expr (pe_bm PySem.F.plainAttrs_list PySem.F.slot_list_append PySem.F.type_list_append mt_append (pv 4) (pa_cons (pe_joined (PJ.cons pe_str (PJ.cons (pe_fmt (pv 2)) (PJ.cons pe_str PJ.nil)))) pa_nil)))
    (pss_cons (ps_if (pt_cmpR (op_neD hr.units) (pe_cl Drefused hr (by decide) (by rfl) pass0 (pa_cons (pe_lst (pa_cons (pe_joined (PJ.cons pe_str (PJ.cons (pe_fmt (pv 2)) PJ.nil))) pa_nil)) pa_nil)) (pe_ifExp (pt_val (pv 3)) pe_non pe_int) (nomark _)) (pss_one (ps_ret pe_bl)) pss_nil)
    (pss_cons (ps_for PassesOwn.never rfl (pi_list (pv 4)) (pg_name (i:=5) sc_kept_right.nd rfl (Or.inl rfl))
     (pss_one (ps_if (pt_cmpR (op_neD hr.units) (pe_cl Drefused hr (by decide) (by rfl) pass0 (pa_cons (pe_lst (pa_cons pe_str (pa_cons (pv 5) pa_nil))) pa_nil)) (pe_ifExp (pt_val (pv 3)) pe_non pe_int) (nomark _)) (pss_one (ps_ret pe_bl)) pss_nil)))
    (pss_one (ps_if (pt_cmpR (op_neD hr.units) (pe_cl Dkeeper_refused hr (by decide) (by rfl) pass0 (pa_cons (pe_lst (pa_cons pe_str (pa_cons (pv 2) pa_nil))) pa_nil)) (pe_ifExp (pt_val (pv 3)) pe_non pe_int) (nomark _)) (pss_one (ps_ret pe_bl)) pss_nil)))))))
   (pss_one (ps_ret pe_bl))),?_⟩
  walk_at "rd"
  refine ⟨by show 2≤sizeLine; decide +kernel,fun t1 n1=>?_⟩
  generalize hX:upd _ t1 _=G1
  obtain ⟨e1,g1⟩:=new_facts (TS:=TS) hX n1
  clear hX
  walk_at "rs"
  walk_at "rd"
  refine ⟨by show z.length+1≤sizeLine; exact le_line (by omega),?_⟩
  walk_at "rd"
  refine ⟨by show 2≤sizeLine; decide +kernel,fun t2 n2=>?_⟩
  generalize hX:upd _ t2 _=G2
  obtain ⟨e2,g2⟩:=new_facts (TS:=TS) hX n2
  clear hX
  walk_at "rs"
  walk_at "rd"
  refine ⟨by show 2≤sizeLine; decide +kernel,fun t3 n3=>?_⟩
  generalize hX:upd _ t3 _=G3
  obtain ⟨e3,g3⟩:=new_facts (TS:=TS) hX n3
  clear hX
  walk_at "rs"
  have E3:=(e1.trans e2 trivial).trans e3 trivial
  have f1:=ev_tup (e2.trans e3 trivial) g1
  have f2:=ev_tup e3 g2
  have tf:∀ (i:Nat) (v:V),[V.ref t1,V.ref t2][i]? = some v→∃ t y ok,v=.ref t∧G3 t=some (.tup [.str y,.bl ok])∧Nm04 y ok:=fun i v hv=>by
   match i,hv with
   | 0,hv=>cases hv; exact ⟨t1,_,_,rfl,f1,nm04_k hz⟩
   | 1,hv=>cases hv; exact ⟨t2,_,_,rfl,f2,nm04_w hz hc⟩
   | i+2,hv=>simp at hv
  clear f1 f2 g1 g2 e1 e2 e3 n1 n2 n3
  walk_at "rd"
  refine ⟨⟨_,SqT.of g3⟩,?_⟩
  refine for_it (walk_tup (xs:=[V.ref t1,V.ref t2])) (fun i σ H'=>∃ (o2 o3 o4 o5:Option V),σ=[some (.str z),some (.str ⟨#[c]⟩),o2,o3,o4,o5]∧Ev TS [] G3 H')
   ⟨none,none,none,none,rfl,Ev.refl _ _⟩ (fun i σ H' _ ⟨_,_,_,_,_,e⟩=>SqT.of (ev_tup e g3)) ?_ ?_
  ·rintro i v σ Hz H3 hi ⟨o2,o3,o4,o5,rfl,e3⟩ ⟨rfl,hv⟩
   obtain ⟨tt,y,ok,rfl,ht,N4⟩:=tf i v hv
   have yl:=N4.len
   refine ⟨tt,_,rfl,SqT.of (ev_tup e3 ht),rfl,?_⟩
   cases ok with
   | false =>
    walk_at "rd"
    refine ⟨by decide +kernel,js_c (n:=20) (y:=y) (by decide +kernel) (by omega) (by decide) (ht_v rfl (by omega)) fun q1a1=>?_⟩
    walk_at "rd"
    refine ⟨by decide +kernel,js_c (n:=20) (y:=y) (by decide +kernel) (by omega) (by decide) (ht_v rfl (by omega)) fun q2b1=>js_c (y:=" zest\nend") q2b1 (by decide +kernel) (by decide) ht_c fun q2b2=>?_⟩
    walk_at "rd"
    refine ⟨by decide +kernel,js_c (n:=20) (y:=y) (by decide +kernel) (by omega) (by decide) (ht_v rfl (by omega)) fun q3c1=>js_c (y:=" turn zeal") q3c1 (by decide +kernel) (by decide) ht_c fun q3c2=>?_⟩
    walk_at "rd"
    refine ⟨by show 3≤sizeLine; decide +kernel,fun l1 n1=>?_⟩
    generalize hX:upd _ l1 _=J1
    obtain ⟨e1,h1⟩:=new_facts (TS:=TS) hX n1
    clear hX
    walk_at "rs"
    walk_at "rd"
    refine ⟨.inl ⟨rfl,_,SqL.of h1⟩,?_⟩
    walk_at "rd"
    refine ⟨by decide +kernel,js_c (n:=20) (y:=y) (by decide +kernel) (by omega) (by decide) (ht_v rfl (by omega)) fun q4d1=>js_c (y:="\nend") q4d1 (by decide +kernel) (by decide) ht_c fun q4d2=>?_⟩
    refine tjs0 ?_
    walk_at "rd"
    refine a_append (TS:=TS) h1 (lt_line (by show 3≤_; decide)) fun J2 e2 h2=>?_
    have h2:J2 l1=some (.lst ((rest4 y).map V.str)):=h2
    have n1':NA H3 l1:=.of n1
    have E2:Ev TS [] G3 J2:=(e3.trans e1 trivial).trans e2 ⟨.inr (Ev.nal e3 n1),trivial⟩
    clear e1 e2 e3 h1 n1
    walk_at "rd"
    refine ⟨by decide +kernel,js_c (n:=20) (y:=y) (by decide +kernel) (by omega) (by decide) (ht_v rfl (by omega)) fun q5e1=>?_⟩
    walk_at "rd"
    refine ⟨by show 1≤sizeLine; decide +kernel,fun l3 n3=>?_⟩
    generalize hX:upd _ l3 _=J3
    obtain ⟨e3,h3⟩:=new_facts (TS:=TS) hX n3
    clear hX
    walk_at "rs"
    have h3:J3 l3=some (.lst (([Str.empty ++ "lists " ++ y]:List Str).map V.str)):=h3
    walk_at "rd"
    refine ref_of (T:=[[("lists" : Str),y]]) h3 (by
     refine str_ext ?_
     rw [show ([[("lists" : Str),y]].map lineS)=[Txt.join sp1 [("lists" : Str),y]] from rfl]
     simp only [tj1,tj2,app_cps,List.append_assoc]
     kernel_rfl) (N4.tx _ (.head _)) N4.r0 fun J4 e4=>?_
    have E4:Ev TS [] G3 J4:=(E2.trans e3 trivial).trans e4 trivial
    have h4:=ev_lst (e3.trans e4 trivial) h2 trivial
    clear E2 e3 e4 h2 h3 n3
    walk_at "rd"
    walk_at "if"
    walk_at "rd"
    refine a_ne4 ?_
    walk_at "rd"
    refine ⟨⟨_,SqL.of h4⟩,?_⟩
    refine for_it (walk_list (xs:=(rest4 y).map V.str)) (fun j σ H'=>∃ o5:Option V,σ=[some (.str z),some (.str ⟨#[c]⟩),some (.str y),some (.bl false),some (.ref l1),o5]∧Ev TS [] J4 H') ⟨o5,rfl,Ev.refl _ _⟩ (fun j σ H' _ ⟨_,_,e⟩=>SqL.of (ev_lst e h4 trivial)) ?_ ?_
    ·rintro j x σ Hy J5 hj ⟨o5,rfl,e5⟩ ⟨rfl,hx⟩
     have hx:((rest4 y).map V.str)[j]? = some x:=hx
     rw [List.getElem?_map] at hx
     obtain ⟨tx,htx,rfl⟩:=Option.map_eq_some_iff.mp hx
     obtain ⟨TT,hTT,et⟩:=rest4_txt y j tx htx
     walk_at "rd"
     refine ⟨by show 2≤sizeLine; decide +kernel,fun l5 n5=>?_⟩
     generalize hX:upd _ l5 _=J6
     obtain ⟨e6,h6⟩:=new_facts (TS:=TS) hX n5
     clear hX
     walk_at "rs"
     have h6:J6 l5=some (.lst (([("lists zeal" : Str),tx]:List Str).map V.str)):=h6
     walk_at "rd"
     refine ref_of (T:=TT) h6 et (N4.tx TT (List.mem_of_mem_drop hTT)) (N4.r1 TT hTT) fun J7 e7=>?_
     walk_at "rd"
     walk_at "if"
     walk_at "rd"
     refine a_ne4 ?_
     walk_at "rd"
     exact (e5.trans e6 trivial).trans e7 trivial
    ·rintro σ J5 ⟨o5,rfl,e5⟩
     have E5:=E4.trans e5 trivial
     walk_at "rd"
     refine ⟨by show 2≤sizeLine; decide +kernel,fun l5 n5=>?_⟩
     generalize hX:upd _ l5 _=J6
     obtain ⟨e6,h6⟩:=new_facts (TS:=TS) hX n5
     clear hX
     walk_at "rs"
     have h6:J6 l5=some (.lst (([("zeal" : Str),y]:List Str).map V.str)):=h6
     walk_at "rd"
     refine ⟨l5,_,rfl,h6,by show 1≤2; decide,by show 2≤6; decide,fun u hu=>?_,fun J7 e7=>?_⟩
     ·have:u=("zeal" : Str)∨u=y:=by simpa using hu
      rcases this with rfl | rfl
      ·decide +kernel
      ·omega
     rw [N4.kp]
     walk_at "rd"
     walk_at "if"
     walk_at "rd"
     refine a_ne4 ?_
     walk_at "rd"
     exact ⟨_,_,_,_,rfl,(E5.trans e6 trivial).trans e7 trivial⟩
   | true =>
    walk_at "rd"
    refine ⟨by decide +kernel,js_c (n:=20) (y:=y) (by decide +kernel) (by omega) (by decide) (ht_v rfl (by omega)) fun q1a1=>?_⟩
    walk_at "rd"
    refine ⟨by decide +kernel,js_c (n:=20) (y:=y) (by decide +kernel) (by omega) (by decide) (ht_v rfl (by omega)) fun q2b1=>js_c (y:=" zest\nend") q2b1 (by decide +kernel) (by decide) ht_c fun q2b2=>?_⟩
    walk_at "rd"
    refine ⟨by decide +kernel,js_c (n:=20) (y:=y) (by decide +kernel) (by omega) (by decide) (ht_v rfl (by omega)) fun q3c1=>js_c (y:=" turn zeal") q3c1 (by decide +kernel) (by decide) ht_c fun q3c2=>?_⟩
    walk_at "rd"
    refine ⟨by show 3≤sizeLine; decide +kernel,fun l1 n1=>?_⟩
    generalize hX:upd _ l1 _=J1
    obtain ⟨e1,h1⟩:=new_facts (TS:=TS) hX n1
    clear hX
    walk_at "rs"
    walk_at "rd"
    refine ⟨.inl ⟨rfl,_,SqL.of h1⟩,?_⟩
    walk_at "rd"
    refine ⟨by decide +kernel,js_c (n:=20) (y:=y) (by decide +kernel) (by omega) (by decide) (ht_v rfl (by omega)) fun q4d1=>js_c (y:="\nend") q4d1 (by decide +kernel) (by decide) ht_c fun q4d2=>?_⟩
    refine tjs0 ?_
    walk_at "rd"
    refine a_append (TS:=TS) h1 (lt_line (by show 3≤_; decide)) fun J2 e2 h2=>?_
    have h2:J2 l1=some (.lst ((rest4 y).map V.str)):=h2
    have n1':NA H3 l1:=.of n1
    have E2:Ev TS [] G3 J2:=(e3.trans e1 trivial).trans e2 ⟨.inr (Ev.nal e3 n1),trivial⟩
    clear e1 e2 e3 h1 n1
    walk_at "rd"
    refine ⟨by decide +kernel,js_c (n:=20) (y:=y) (by decide +kernel) (by omega) (by decide) (ht_v rfl (by omega)) fun q5e1=>?_⟩
    walk_at "rd"
    refine ⟨by show 1≤sizeLine; decide +kernel,fun l3 n3=>?_⟩
    generalize hX:upd _ l3 _=J3
    obtain ⟨e3,h3⟩:=new_facts (TS:=TS) hX n3
    clear hX
    walk_at "rs"
    have h3:J3 l3=some (.lst (([Str.empty ++ "lists " ++ y]:List Str).map V.str)):=h3
    walk_at "rd"
    refine ref_of (T:=[[("lists" : Str),y]]) h3 (by
     refine str_ext ?_
     rw [show ([[("lists" : Str),y]].map lineS)=[Txt.join sp1 [("lists" : Str),y]] from rfl]
     simp only [tj1,tj2,app_cps,List.append_assoc]
     kernel_rfl) (N4.tx _ (.head _)) N4.r0 fun J4 e4=>?_
    have E4:Ev TS [] G3 J4:=(E2.trans e3 trivial).trans e4 trivial
    have h4:=ev_lst (e3.trans e4 trivial) h2 trivial
    clear E2 e3 e4 h2 h3 n3
    walk_at "rd"
    walk_at "if"
    walk_at "rd"
    refine a_ne4 ?_
    walk_at "rd"
    refine ⟨⟨_,SqL.of h4⟩,?_⟩
    refine for_it (walk_list (xs:=(rest4 y).map V.str)) (fun j σ H'=>∃ o5:Option V,σ=[some (.str z),some (.str ⟨#[c]⟩),some (.str y),some (.bl true),some (.ref l1),o5]∧Ev TS [] J4 H') ⟨o5,rfl,Ev.refl _ _⟩ (fun j σ H' _ ⟨_,_,e⟩=>SqL.of (ev_lst e h4 trivial)) ?_ ?_
    ·rintro j x σ Hy J5 hj ⟨o5,rfl,e5⟩ ⟨rfl,hx⟩
     have hx:((rest4 y).map V.str)[j]? = some x:=hx
     rw [List.getElem?_map] at hx
     obtain ⟨tx,htx,rfl⟩:=Option.map_eq_some_iff.mp hx
     obtain ⟨TT,hTT,et⟩:=rest4_txt y j tx htx
     walk_at "rd"
     refine ⟨by show 2≤sizeLine; decide +kernel,fun l5 n5=>?_⟩
     generalize hX:upd _ l5 _=J6
     obtain ⟨e6,h6⟩:=new_facts (TS:=TS) hX n5
     clear hX
     walk_at "rs"
     have h6:J6 l5=some (.lst (([("lists zeal" : Str),tx]:List Str).map V.str)):=h6
     walk_at "rd"
     refine ref_of (T:=TT) h6 et (N4.tx TT (List.mem_of_mem_drop hTT)) (N4.r1 TT hTT) fun J7 e7=>?_
     walk_at "rd"
     walk_at "if"
     walk_at "rd"
     refine a_ne4 ?_
     walk_at "rd"
     exact (e5.trans e6 trivial).trans e7 trivial
    ·rintro σ J5 ⟨o5,rfl,e5⟩
     have E5:=E4.trans e5 trivial
     walk_at "rd"
     refine ⟨by show 2≤sizeLine; decide +kernel,fun l5 n5=>?_⟩
     generalize hX:upd _ l5 _=J6
     obtain ⟨e6,h6⟩:=new_facts (TS:=TS) hX n5
     clear hX
     walk_at "rs"
     have h6:J6 l5=some (.lst (([("zeal" : Str),y]:List Str).map V.str)):=h6
     walk_at "rd"
     refine ⟨l5,_,rfl,h6,by show 1≤2; decide,by show 2≤6; decide,fun u hu=>?_,fun J7 e7=>?_⟩
     ·have:u=("zeal" : Str)∨u=y:=by simpa using hu
      rcases this with rfl | rfl
      ·decide +kernel
      ·omega
     rw [N4.kp]
     walk_at "rd"
     walk_at "if"
     walk_at "rd"
     refine a_ne4 ?_
     walk_at "rd"
     exact ⟨_,_,_,_,rfl,(E5.trans e6 trivial).trans e7 trivial⟩
  ·rintro σ H3 ⟨o2,o3,o4,o5,rfl,e3⟩
   walk_at "rd"
   exact k _ (E3.trans e3 trivial)
end
def spGrp4 (TS:List (Addr × Str)):Sp:=fun vs H Q _=>∃ (a b x f g p q:Str),vs=[.str a,.str b,.str x,.str p]∧Ws04 [a,b,x,f,g,p,q]∧∀ H',Ev TS [] H H'→Q (.bl true) H'
theorem gs4_1 (x:Str):Str.empty ++ "lists " ++ x=lineS [("lists" : Str),x]:=by
 refine str_ext ?_
 show _=(Txt.join sp1 [("lists" : Str),x]).cps.toList
 simp only [tj1,tj2,app_cps,List.append_assoc]
 kernel_rfl
theorem gs4_2 (x y:Str):Str.empty ++ "lists " ++ x ++ " " ++ y=lineS [("lists" : Str),x,y]:=by
 refine str_ext ?_
 show _=(Txt.join sp1 [("lists" : Str),x,y]).cps.toList
 simp only [tj1,tj2,app_cps,List.append_assoc]
 kernel_rfl
theorem gs4_3 (x y z:Str):Str.empty ++ "lists " ++ x ++ " " ++ y ++ " " ++ z=lineS [("lists" : Str),x,y,z]:=by
 refine str_ext ?_
 show _=(Txt.join sp1 [("lists" : Str),x,y,z]).cps.toList
 simp only [tj1,tj2,app_cps,List.append_assoc]
 kernel_rfl
theorem gs4_p (x y:Str):Str.empty ++ "pour " ++ x ++ " into " ++ y=lineS [("pour" : Str),x,("into" : Str),y]:=by
 refine str_ext ?_
 show _=(Txt.join sp1 [("pour" : Str),x,("into" : Str),y]).cps.toList
 simp only [tj1,tj2,app_cps,List.append_assoc]
 kernel_rfl
section
variable {P:Program} {w:World} {K:PySem.W.Frag} {mg:Str→Option Value} {base:Heap} {TS:List (Addr × Str)}
theorem sc_groups_right:FnScope ["_law_a","_law_b","_law_x","_law_p"] ["_law_a","_law_b","_law_x","_law_p"] (defScope s_groups_right):=⟨rfl,rfl,rfl,by decide +kernel,rfl,by decide +kernel,by decide +kernel⟩
theorem ok_groups_right {f:Addr} {fd:FuncData} (F:Fun K "_law_groups_right" "_law_groups_right" s_groups_right f fd) (T:Blt mg) (Drefused:Cl P w K mg base CX0 7 "_law_refused" (spRef04 TS)):FnR P w K mg base CX0 8 f (spGrp4 TS):=by
 refine fnr F sc_groups_right (fun vs H Q E h=>?_) (fun _ _ _ _ _ _ us hl=>match us,hl with | [_,_,_,_],_=>rfl) (fun cdv A outer s H vs Q E hr h=>?_)
 ·obtain ⟨a,b,x,f,g,p,q,rfl,_⟩:=h
  rfl
 ·obtain ⟨a,b,x,ff,g,p,q,rfl,W4,k⟩:=h
  have la:=W4.len (z:=a) (by simp)
  have lb:=W4.len (z:=b) (by simp)
  have lx:=W4.len (z:=x) (by simp)
  have lp:=W4.len (z:=p) (by simp)
  refine ⟨_,(pss_cons (ps_if (pt_cmpR op_notN (pe_cl Drefused hr (by decide) (by rfl) pass0 (pa_cons (pe_lst (pa_cons (pe_joined (PJ.cons pe_str (PJ.cons (pe_fmt (pv 0)) (PJ.cons pe_str (PJ.cons (pe_fmt (pv 1)) PJ.nil))))) (pa_cons (pe_joined (PJ.cons pe_str (PJ.cons (pe_fmt (pv 2)) (PJ.cons pe_str (PJ.cons (pe_fmt (pv 3)) PJ.nil))))) (pa_cons (pe_joined (PJ.cons pe_str (PJ.cons (pe_fmt (pv 0)) (PJ.cons pe_str (PJ.cons (pe_fmt (pv 3)) PJ.nil))))) pa_nil)))) pa_nil)) pe_non (nomark _)) (pss_one (ps_ret pe_bl)) pss_nil)
   (pss_cons (ps_if (PW.pt (pw_or (pt_cmpR (op_neD hr.units) (pe_cl Drefused hr (by decide) (by rfl) pass0 (pa_cons (pe_lst (pa_cons (pe_joined (PJ.cons pe_str (PJ.cons (pe_fmt (pv 0)) (PJ.cons pe_str (PJ.cons (pe_fmt (pv 1)) PJ.nil))))) (pa_cons (pe_joined (PJ.cons pe_str (PJ.cons (pe_fmt (pv 2)) PJ.nil))) pa_nil))) pa_nil)) pe_int (nomark _)) (pw_or1 (pt_cmpR (op_neD hr.units) (pe_cl Drefused hr (by decide) (by rfl) pass0 (pa_cons (pe_lst (pa_cons (pe_joined (PJ.cons pe_str (PJ.cons (pe_fmt (pv 0)) (PJ.cons pe_str (PJ.cons (pe_fmt (pv 1)) PJ.nil))))) (pa_cons (pe_joined (PJ.cons pe_str (PJ.cons (pe_fmt (pv 2)) (PJ.cons pe_str (PJ.cons (pe_fmt (pv 0)) PJ.nil))))) pa_nil))) pa_nil)) pe_int (nomark _))))) (pss_one (ps_ret pe_bl)) pss_nil)
   (pss_cons (ps_if (pt_cmpR (op_neD hr.units) (pe_cl Drefused hr (by decide) (by rfl) pass0 (pa_cons (pe_lst (pa_cons (pe_joined (PJ.cons pe_str (PJ.cons (pe_fmt (pv 0)) PJ.nil))) (pa_cons (pe_joined (PJ.cons pe_str (PJ.cons (pe_fmt (pv 1)) PJ.nil))) (pa_cons (pe_joined (PJ.cons pe_str (PJ.cons (pe_fmt (pv 2)) PJ.nil))) pa_nil)))) pa_nil)) pe_int (nomark _)) (pss_one (ps_ret pe_bl)) pss_nil)
   (pss_cons (ps_if (pt_cmpR (op_neD hr.units) (pe_cl Drefused hr (by decide) (by rfl) pass0 (pa_cons (pe_lst (pa_cons (pe_joined (PJ.cons pe_str (PJ.cons (pe_fmt (pv 0)) PJ.nil))) (pa_cons pe_str (pa_cons (pe_joined (PJ.cons pe_str (PJ.cons (pe_fmt (pv 1)) PJ.nil))) pa_nil)))) pa_nil)) pe_int (nomark _)) (pss_one (ps_ret pe_bl)) pss_nil)
   (pss_one (ps_ret (pe_cmpR (op_eqD hr.units) (pe_cl Drefused hr (by decide) (by rfl) pass0 (pa_cons (pe_lst (pa_cons (pe_joined (PJ.cons pe_str (PJ.cons (pe_fmt (pv 0)) (PJ.cons pe_str (PJ.cons (pe_fmt (pv 1)) (PJ.cons pe_str (PJ.cons (pe_fmt (pv 2)) PJ.nil))))))) (pa_cons (pe_joined (PJ.cons pe_str (PJ.cons (pe_fmt (pv 0)) (PJ.cons pe_str (PJ.cons (pe_fmt (pv 3)) PJ.nil))))) pa_nil))) pa_nil)) pe_int (nomark _)))))))),?_⟩
  have E:Ev TS [] H H:=Ev.refl _ _
  walk_at "rd"
  refine ⟨by decide +kernel,js_c (n:=20) (y:=a) (by decide +kernel) (by omega) (by decide) (ht_v rfl (by omega)) fun q1a1=>js_c (y:=" ") q1a1 (by decide +kernel) (by decide) ht_c fun q1a2=>js_c (y:=b) q1a2 (by omega) (by decide) (ht_v rfl (by omega)) fun q1a3=>?_⟩
  walk_at "rd"
  refine ⟨by decide +kernel,js_c (n:=20) (y:=x) (by decide +kernel) (by omega) (by decide) (ht_v rfl (by omega)) fun q2b1=>js_c (y:=" ") q2b1 (by decide +kernel) (by decide) ht_c fun q2b2=>js_c (y:=p) q2b2 (by omega) (by decide) (ht_v rfl (by omega)) fun q2b3=>?_⟩
  walk_at "rd"
  refine ⟨by decide +kernel,js_c (n:=20) (y:=a) (by decide +kernel) (by omega) (by decide) (ht_v rfl (by omega)) fun q3c1=>js_c (y:=" into ") q3c1 (by decide +kernel) (by decide) ht_c fun q3c2=>js_c (y:=p) q3c2 (by omega) (by decide) (ht_v rfl (by omega)) fun q3c3=>?_⟩
  walk_at "rd"
  refine ⟨by show 3≤sizeLine; decide +kernel,fun l1 n1=>?_⟩
  generalize hX:upd _ l1 _=J1
  obtain ⟨e1,h1⟩:=new_facts (TS:=TS) hX n1
  clear hX
  walk_at "rs"
  have E:=E.trans e1 trivial
  have h1:J1 l1=some (.lst (([[("lists" : Str),a,b],[("lists" : Str),x,p],[("pour" : Str),a,("into" : Str),p]].map lineS).map V.str)):=by rw [h1,gs4_2,gs4_2,gs4_p]; simp only [List.map_cons,List.map_nil,ls1]
  walk_at "rd"
  refine ref_of (T:=[[("lists" : Str),a,b],[("lists" : Str),x,p],[("pour" : Str),a,("into" : Str),p]]) h1 rfl (grp04 W4 ([[("lists" : Str),a,b],[("lists" : Str),x,p],[("pour" : Str),a,("into" : Str),p]],none) (by simp [gr04])).1 (grp04 W4 ([[("lists" : Str),a,b],[("lists" : Str),x,p],[("pour" : Str),a,("into" : Str),p]],none) (by simp [gr04])).2 fun J2 e2=>?_
  have E:=E.trans e2 trivial
  clear h1 n1
  walk_at "rd"
  refine ⟨by decide +kernel,js_c (n:=20) (y:=a) (by decide +kernel) (by omega) (by decide) (ht_v rfl (by omega)) fun r1a1=>js_c (y:=" ") r1a1 (by decide +kernel) (by decide) ht_c fun r1a2=>js_c (y:=b) r1a2 (by omega) (by decide) (ht_v rfl (by omega)) fun r1a3=>?_⟩
  walk_at "rd"
  refine ⟨by decide +kernel,js_c (n:=20) (y:=x) (by decide +kernel) (by omega) (by decide) (ht_v rfl (by omega)) fun r2b1=>?_⟩
  walk_at "rd"
  refine ⟨by show 2≤sizeLine; decide +kernel,fun l1 n1=>?_⟩
  generalize hX:upd _ l1 _=J1
  obtain ⟨e1,h1⟩:=new_facts (TS:=TS) hX n1
  clear hX
  walk_at "rs"
  have E:=E.trans e1 trivial
  have h1:J1 l1=some (.lst (([[("lists" : Str),a,b],[("lists" : Str),x]].map lineS).map V.str)):=by rw [h1,gs4_2,gs4_1]; simp only [List.map_cons,List.map_nil,ls1]
  walk_at "rd"
  refine ref_of (T:=[[("lists" : Str),a,b],[("lists" : Str),x]]) h1 rfl (grp04 W4 ([[("lists" : Str),a,b],[("lists" : Str),x]],(some 1)) (by simp [gr04])).1 (grp04 W4 ([[("lists" : Str),a,b],[("lists" : Str),x]],(some 1)) (by simp [gr04])).2 fun J2 e2=>?_
  have E:=E.trans e2 trivial
  clear h1 n1
  walk_at "rd"
  refine a_ne4 ?_
  walk_at "rd"
  first | refine ifF rfl ?_ | skip
  walk_at "rd"
  refine ⟨by decide +kernel,js_c (n:=20) (y:=a) (by decide +kernel) (by omega) (by decide) (ht_v rfl (by omega)) fun s1a1=>js_c (y:=" ") s1a1 (by decide +kernel) (by decide) ht_c fun s1a2=>js_c (y:=b) s1a2 (by omega) (by decide) (ht_v rfl (by omega)) fun s1a3=>?_⟩
  walk_at "rd"
  refine ⟨by decide +kernel,js_c (n:=20) (y:=x) (by decide +kernel) (by omega) (by decide) (ht_v rfl (by omega)) fun s2b1=>js_c (y:=" ") s2b1 (by decide +kernel) (by decide) ht_c fun s2b2=>js_c (y:=a) s2b2 (by omega) (by decide) (ht_v rfl (by omega)) fun s2b3=>?_⟩
  walk_at "rd"
  refine ⟨by show 2≤sizeLine; decide +kernel,fun l1 n1=>?_⟩
  generalize hX:upd _ l1 _=J1
  obtain ⟨e1,h1⟩:=new_facts (TS:=TS) hX n1
  clear hX
  walk_at "rs"
  have E:=E.trans e1 trivial
  have h1:J1 l1=some (.lst (([[("lists" : Str),a,b],[("lists" : Str),x,a]].map lineS).map V.str)):=by rw [h1,gs4_2,gs4_2]; simp only [List.map_cons,List.map_nil,ls1]
  walk_at "rd"
  refine ref_of (T:=[[("lists" : Str),a,b],[("lists" : Str),x,a]]) h1 rfl (grp04 W4 ([[("lists" : Str),a,b],[("lists" : Str),x,a]],(some 1)) (by simp [gr04])).1 (grp04 W4 ([[("lists" : Str),a,b],[("lists" : Str),x,a]],(some 1)) (by simp [gr04])).2 fun J2 e2=>?_
  have E:=E.trans e2 trivial
  clear h1 n1
  walk_at "rd"
  refine a_ne4 ?_
  walk_at "rd"
  first | refine ifF rfl ?_ | skip
  walk_at "rd"
  refine ⟨by decide +kernel,js_c (n:=20) (y:=a) (by decide +kernel) (by omega) (by decide) (ht_v rfl (by omega)) fun t1a1=>?_⟩
  walk_at "rd"
  refine ⟨by decide +kernel,js_c (n:=20) (y:=b) (by decide +kernel) (by omega) (by decide) (ht_v rfl (by omega)) fun t2b1=>?_⟩
  walk_at "rd"
  refine ⟨by decide +kernel,js_c (n:=20) (y:=x) (by decide +kernel) (by omega) (by decide) (ht_v rfl (by omega)) fun t3c1=>?_⟩
  walk_at "rd"
  refine ⟨by show 3≤sizeLine; decide +kernel,fun l1 n1=>?_⟩
  generalize hX:upd _ l1 _=J1
  obtain ⟨e1,h1⟩:=new_facts (TS:=TS) hX n1
  clear hX
  walk_at "rs"
  have E:=E.trans e1 trivial
  have h1:J1 l1=some (.lst (([[("lists" : Str),a],[("lists" : Str),b],[("lists" : Str),x]].map lineS).map V.str)):=by rw [h1,gs4_1,gs4_1,gs4_1]; simp only [List.map_cons,List.map_nil,ls1]
  walk_at "rd"
  refine ref_of (T:=[[("lists" : Str),a],[("lists" : Str),b],[("lists" : Str),x]]) h1 rfl (grp04 W4 ([[("lists" : Str),a],[("lists" : Str),b],[("lists" : Str),x]],(some 2)) (by simp [gr04])).1 (grp04 W4 ([[("lists" : Str),a],[("lists" : Str),b],[("lists" : Str),x]],(some 2)) (by simp [gr04])).2 fun J2 e2=>?_
  have E:=E.trans e2 trivial
  clear h1 n1
  walk_at "rd"
  refine a_ne4 ?_
  walk_at "rd"
  first | refine ifF rfl ?_ | skip
  walk_at "rd"
  refine ⟨by decide +kernel,js_c (n:=20) (y:=a) (by decide +kernel) (by omega) (by decide) (ht_v rfl (by omega)) fun u1a1=>?_⟩
  walk_at "rd"
  refine ⟨by decide +kernel,js_c (n:=20) (y:=b) (by decide +kernel) (by omega) (by decide) (ht_v rfl (by omega)) fun u2b1=>?_⟩
  walk_at "rd"
  refine ⟨by show 3≤sizeLine; decide +kernel,fun l1 n1=>?_⟩
  generalize hX:upd _ l1 _=J1
  obtain ⟨e1,h1⟩:=new_facts (TS:=TS) hX n1
  clear hX
  walk_at "rs"
  have E:=E.trans e1 trivial
  have h1:J1 l1=some (.lst (([[("lists" : Str),a],[("check" : Str)],[("lists" : Str),b]].map lineS).map V.str)):=by rw [h1,gs4_1,gs4_1]; simp only [List.map_cons,List.map_nil,ls1]
  walk_at "rd"
  refine ref_of (T:=[[("lists" : Str),a],[("check" : Str)],[("lists" : Str),b]]) h1 rfl (grp04 W4 ([[("lists" : Str),a],[("check" : Str)],[("lists" : Str),b]],(some 2)) (by simp [gr04])).1 (grp04 W4 ([[("lists" : Str),a],[("check" : Str)],[("lists" : Str),b]],(some 2)) (by simp [gr04])).2 fun J2 e2=>?_
  have E:=E.trans e2 trivial
  clear h1 n1
  walk_at "rd"
  refine a_ne4 ?_
  walk_at "rd"
  first | refine ifF rfl ?_ | skip
  walk_at "rd"
  refine ⟨by decide +kernel,js_c (n:=20) (y:=a) (by decide +kernel) (by omega) (by decide) (ht_v rfl (by omega)) fun v1a1=>js_c (y:=" ") v1a1 (by decide +kernel) (by decide) ht_c fun v1a2=>js_c (y:=b) v1a2 (by omega) (by decide) (ht_v rfl (by omega)) fun v1a3=>js_c (y:=" ") v1a3 (by decide +kernel) (by decide) ht_c fun v1a4=>js_c (y:=x) v1a4 (by omega) (by decide) (ht_v rfl (by omega)) fun v1a5=>?_⟩
  walk_at "rd"
  refine ⟨by decide +kernel,js_c (n:=20) (y:=a) (by decide +kernel) (by omega) (by decide) (ht_v rfl (by omega)) fun v2b1=>js_c (y:=" ") v2b1 (by decide +kernel) (by decide) ht_c fun v2b2=>js_c (y:=p) v2b2 (by omega) (by decide) (ht_v rfl (by omega)) fun v2b3=>?_⟩
  walk_at "rd"
  refine ⟨by show 2≤sizeLine; decide +kernel,fun l1 n1=>?_⟩
  generalize hX:upd _ l1 _=J1
  obtain ⟨e1,h1⟩:=new_facts (TS:=TS) hX n1
  clear hX
  walk_at "rs"
  have E:=E.trans e1 trivial
  have h1:J1 l1=some (.lst (([[("lists" : Str),a,b,x],[("lists" : Str),a,p]].map lineS).map V.str)):=by rw [h1,gs4_3,gs4_2]; simp only [List.map_cons,List.map_nil,ls1]
  walk_at "rd"
  refine ref_of (T:=[[("lists" : Str),a,b,x],[("lists" : Str),a,p]]) h1 rfl (grp04 W4 ([[("lists" : Str),a,b,x],[("lists" : Str),a,p]],(some 1)) (by simp [gr04])).1 (grp04 W4 ([[("lists" : Str),a,b,x],[("lists" : Str),a,p]],(some 1)) (by simp [gr04])).2 fun J2 e2=>?_
  have E:=E.trans e2 trivial
  clear h1 n1
  walk_at "rd"
  refine a_eq4 ?_
  walk_at "rd"
  exact k _ E
end
def spLaw (K:PySem.W.Frag) (TS:List (Addr × Str)):Sp:=fun vs H Q _=>∃ (a:Addr) (ns:List Int),vs=[.ref a]∧SqL K H a (ns.map V.int)∧ns.length≤63∧Tabs TS H∧∀ H',Q (.bl true) H'
section
variable {P:Program} {w:World} {K:PySem.W.Frag} {mg:Str→Option Value} {base:Heap} {KPT SGN MVG BLK CR CP:Addr}
theorem sc_law:FnScope ["_law_script","_law_kept","_law_bag_here","_law_words","_law_a","_law_b","_law_x","_law_f","_law_g","_law_p","_law_q","_law_letter","_law_word","_law_rest","_law_due"] ["_law_script"] (defScope s_law):=⟨rfl,rfl,rfl,by decide +kernel,rfl,by decide +kernel,by decide +kernel⟩
theorem ok_law (TS:List (Addr × Str)) {f:Addr} {fd:FuncData} (F:Fun K "law" "law" s_law f fd) (T:TxtPg K mg KPT SGN MVG BLK CR CP) (Dbag:Cl P w K mg base CX0 1 "_law_bag" (spBag K)) (Dtake:Cl P w K mg base CX0 1 "_law_take" spTake) (Dany_words:Cl P w K mg base CX0 3 "_law_any_words" (spAny TS)) (Dkept_right:Cl P w K mg base CX0 9 "_law_kept_right" (spKept4 TS)) (Dprocedures:Cl P w K mg base CX0 1 "_law_procedures" (spProcs4 TS)) (Dplans:Cl P w K mg base CX0 1 "_law_plans" (spPlans4 TS)) (Drefused:Cl P w K mg base CX0 7 "_law_refused" (spRef04 TS)) (Dgroups_right:Cl P w K mg base CX0 8 "_law_groups_right" (spGrp4 TS)):FnOk P w K mg base CX0 10 f fd ["_law_script"] (spLaw K TS):=by
 refine F.ok sc_law (fun vs H Q E h=>?_) (fun cdv A outer s H vs Q E hr h=>?_)
 ·obtain ⟨a,ns,rfl,_⟩:=h
  rfl
 ·obtain ⟨a,ns,rfl,hS,hlen,tb,k⟩:=h
  refine ⟨_,(pss_cons (ps_set (i:=1) sc_law.nd rfl (Or.inl rfl) pe_str)
   (pss_cons (ps_set (i:=1) sc_law.nd rfl (Or.inl rfl) (pe_split (pe_op op_add_str (pv 1) pe_str) pe_str))
   (pss_cons (ps_set (i:=2) sc_law.nd rfl (Or.inl rfl) (pe_cl Dbag hr (by decide) (by rfl) pass0 (pa_cons (pv 0) (pa_cons pe_int pa_nil))))
   (pss_cons (ps_set (i:=3) sc_law.nd rfl (Or.inl rfl) (pe_cl Dany_words hr (by decide) (by rfl) pass0 (pa_cons (pv 2) (pa_cons pe_int (pa_cons (pv 1) pa_nil)))))
   (pss_cons (ps_asg (pv 3) (pg_lst rfl (pgs_cons (pg_name (i:=4) sc_law.nd rfl (Or.inl rfl)) (pgs_cons (pg_name (i:=5) sc_law.nd rfl (Or.inl rfl)) (pgs_cons (pg_name (i:=6) sc_law.nd rfl (Or.inl rfl)) (pgs_cons (pg_name (i:=7) sc_law.nd rfl (Or.inl rfl)) (pgs_cons (pg_name (i:=8) sc_law.nd rfl (Or.inl rfl)) (pgs_cons (pg_name (i:=9) sc_law.nd rfl (Or.inl rfl)) (pgs_cons (pg_name (i:=10) sc_law.nd rfl (Or.inl rfl)) pgs_nil)))))))))
   (C8.pss_cut (ps_set (i:=11) sc_law.nd rfl (Or.inr rfl) (pe_ix ix_str (by exact pe_str) (by exact (pe_cl Dtake hr (by decide) (by rfl) pass0 (pa_cons (pv 2) (pa_cons pe_int pa_nil)))) (fun _ _=>rfl)))
   (pss_cons (ps_if (pt_not (pt_val (pe_callB (cr_all rfl) (by rfl) T.n_all (by decide +kernel) (pa_cons (pe_lc (own:=[("_law_word",12)]) (by rfl) sc_law.nd (pi_list (pv 1)) (blkOk_by (own:=[("_law_word",12)]) (N:=["_law_script","_law_kept","_law_bag_here","_law_words","_law_a","_law_b","_law_x","_law_f","_law_g","_law_p","_law_q","_law_letter","_law_word","_law_rest","_law_due"]) (sc:=defScope s_law) (by first | decide +kernel | kernel_rfl)) (fun _ _ _ _ _=>(pg_name (i:=12) sc_law.nd rfl (Or.inl rfl))) (fun _ _ _ _ _=>by exact pts_nil) (fun _ _ _ _ _=>by exact (pe_cl Dkept_right hr (by decide) (by rfl) pass0 (pa_cons (pv 12) (pa_cons (pv 11) pa_nil))))) pa_nil)))) (pss_one (ps_ret pe_bl)) pss_nil)
   (pss_cons (ps_for PassesOwn.never rfl (pi_list (pe_op op_cat (pe_cl Dprocedures hr (by decide) (by rfl) pass0 (pa_cons (pv 4) (pa_cons (pv 5) (pa_cons (pv 6) (pa_cons (pv 7) (pa_cons (pv 8) (pa_cons (pv 9) (pa_cons (pv 10) pa_nil)))))))) (pe_cl Dplans hr (by decide) (by rfl) pass0 (pa_cons (pv 4) (pa_cons (pv 5) (pa_cons (pv 9) (pa_cons (pv 10) pa_nil))))))) (pg_tup rfl (pgs_cons (pg_name (i:=13) sc_law.nd rfl (Or.inl rfl)) (pgs_cons (pg_name (i:=14) sc_law.nd rfl (Or.inl rfl)) pgs_nil)))
    (pss_one (ps_if (pt_cmpR (op_neD hr.units) (pe_cl Drefused hr (by decide) (by rfl) pass0 (pa_cons (pe_op op_cat (pe_lst (pa_cons (pe_joined (PJ.cons pe_str (PJ.cons (pe_fmt (pv 4)) (PJ.cons pe_str (PJ.cons (pe_fmt (pv 5)) PJ.nil))))) pa_nil)) (pv 13)) pa_nil)) (pv 14) (nomark _)) (pss_one (ps_ret pe_bl)) pss_nil)))
   (pss_one (ps_ret (pe_cl Dgroups_right hr (by decide) (by rfl) pass0 (pa_cons (pv 4) (pa_cons (pv 5) (pa_cons (pv 6) (pa_cons (pv 9) pa_nil))))))))))))))),?_⟩
  walk_at "rd"
  refine ⟨by decide +kernel,?_⟩
  walk_at "rd"
  refine ⟨⟨_,rfl⟩,?_⟩
  refine ⟨_,_,rfl,rfl,by decide +kernel,by decide +kernel,fun kq hkq=>?_⟩
  generalize hX:upd _ kq _=H1
  obtain ⟨e1,h1⟩:=new_facts (TS:=TS) hX hkq
  clear hX
  walk_at "rs"
  have h1:H1 kq=some (.lst (keptL.map V.str)):=by
   rw [h1]
   exact congrArg (fun l:List Str=>some (HO.lst (l.map V.str))) (by decide +kernel)
  walk_at "rd"
  refine bag_ok (TS:=TS) (ns:=ns) (ev_sqL e1 hS trivial) (by omega) (by omega) (by omega) fun b H2 hb e2 b2=>?_
  have k2:=ev_lst e2 h1 trivial
  have nab:NA H b:=Ev.nal e1 hb
  have E2:=e1.trans e2 trivial
  walk_at "rd"
  refine ⟨b,kq,0,7,rfl,b2,by decide,by decide,k2,fun wq H3 zs nw hw nd hl e3 b3 g3=>?_⟩
  have nkb:kq≠b:=fun z=>noS_bag b2 (z ▸ isS.of k2 (by decide +kernel))
  have k3:=ev_lst e3 k2 ⟨nkb,trivial⟩
  have E3:Ev TS [] H H3:=E2.trans e3 ⟨.inr nab,trivial⟩
  clear e1 e2 e3 h1 k2 b2 E2 hkq
  obtain ⟨wa,wb,wx,wf,wg,wp,wq',rfl⟩ : ∃ a b x f g p q:Str,zs=[a,b,x,f,g,p,q]:=by
   match zs,hl with
   | [a,b,x,f,g,p,q],_=>exact ⟨a,b,x,f,g,p,q,rfl⟩
  have W4:Ws04 [wa,wb,wx,wf,wg,wp,wq']:=⟨hw,nd⟩
  walk_at "rd"
  refine ⟨wq,_,rfl,SqL.of g3,rfl,?_⟩
  walk_at "rd"
  refine ⟨fun σ' H'=>∃ c:Nat,σ'=[some (.ref a),some (.ref kq),some (.ref b),some (.ref wq),some (.str wa),some (.str wb),some (.str wx),some (.str wf),some (.str wg),some (.str wp),some (.str wq'),some (.str ⟨#[c]⟩),none,none,none]∧c∈LET.cps.toList∧Ev TS [b] H3 H',?_,?_⟩
  ·walk_at "rd"
   refine take_ok (TS:=TS) b3 (by omega) (by decide) (by decide) (fun r H4 r0 r1 e4 b4=>?_)
   obtain ⟨j,rfl⟩ : ∃ j:Nat,r=(j:Int):=⟨r.toNat,by omega⟩
   have hj:j < LET.cps.toList.length:=by
    have:LET.cps.toList.length=26:=by decide +kernel
    omega
   refine ⟨LET,(j:Int),LET.cps.toList[j],rfl,rfl,by decide +kernel,by rw [atI_nat hj]; exact List.getElem?_eq_getElem hj,?_⟩
   exact ⟨_,rfl,List.getElem_mem hj,e4⟩
  rintro _ H4 ⟨c,rfl,hc,e4⟩
  have k4:=ev_lst e4 k3 ⟨nkb,trivial⟩
  have E4:Ev TS [] H H4:=E3.trans e4 ⟨.inr nab,trivial⟩
  clear e4 k3 E3 b3 g3
  walk_at "rd"
  refine ⟨⟨_,SqL.of k4⟩,fun D hD=>?_⟩
  refine lc_ev (TS:=TS) (walk_list (xs:=keptL.map V.str)) hD (fun i acc H'=>Ev TS [] H4 H'∧acc=(List.replicate i true).map V.bl) (fun H6 e6 h6=>⟨e6,rfl⟩) (fun i acc H' _ hI _=>SqL.of (ev_lst hI.1 k4 trivial)) ?_ ?_
  ·rintro i y acc Hz H5 hi ⟨e5,rfl⟩ hD5 ⟨rfl,hy⟩
   have hy:(keptL.map V.str)[i]? = some y:=hy
   rw [List.getElem?_map] at hy
   obtain ⟨z,hz,rfl⟩:=Option.map_eq_some_iff.mp hy
   have nd:NA H4 D:=.of hD
   have hi:i < 25:=by
    have:=(List.getElem?_eq_some_iff.mp hz).1
    rw [kl25] at this
    exact this
   walk_at "rd"
   refine ⟨List.mem_of_getElem? hz,hc,fun H6 e6=>?_⟩
   refine lc_put (TS:=TS) (ev_lst e6 hD5 trivial) (by rw [List.length_map,List.length_replicate]; exact lt_line (by omega)) fun H7 e7 h7=>?_
   exact ⟨(e5.trans e6 trivial).trans e7 ⟨.inr nd,trivial⟩,by rw [List.replicate_succ',List.map_append]; rfl⟩
  rintro acc H5 ⟨e5,rfl⟩ hD5
  have E5:Ev TS [] H H5:=E4.trans e5 trivial
  clear e5 k4 E4 hD
  walk_at "rd"
  refine ⟨D,_,rfl,SqL.of hD5,?_⟩
  have all1:∀ n:Nat,((List.replicate n true).all id)=true:=fun n=>by
   rw [List.all_eq_true]
   intro x hx
   rw [List.eq_of_mem_replicate hx]
   rfl
  rw [all1]
  walk_at "rd"
  first | refine ifF rfl ?_ | skip
  clear hD5
  walk_at "rd"
  refine ⟨wa,wb,wx,wf,wg,wp,wq',rfl,W4,fun r1 H6 e6 R1=>?_⟩
  have sub4:List.Sublist [wa,wb,wp,wq'] [wa,wb,wx,wf,wg,wp,wq']:=.cons₂ _ (.cons₂ _ (.cons _ (.cons _ (.cons _ (.cons₂ _ (.cons₂ _ .slnil))))))
  have W4':Ws04 [wa,wb,wp,wq']:=⟨fun z hz=>W4.w z (sub4.subset hz),List.Nodup.sublist sub4 W4.nd⟩
  walk_at "rd"
  refine ⟨wa,wb,wp,wq',rfl,W4',fun r2 H7 e7 R2=>?_⟩
  obtain ⟨ts1,f1,F1⟩:=(R1.ev e7).get
  obtain ⟨ts2,f2,F2⟩:=R2.get
  have E7:Ev TS [] H H7:=(E5.trans e6 trivial).trans e7 trivial
  clear e6 e7 R1 R2 E5
  have l1:=F1.len
  have l2:=F2.len
  refine a_cat (TS:=TS) f1 f2 (by rw [List.length_map,List.length_map,l1,l2]; exact le_line (Nat.le_of_ble_eq_true rfl)) fun q H8 nq e8 h8=>?_
  rw [← List.map_append] at h8
  have F:=(F1.app F2).ev e8
  have E8:Ev TS [] H H8:=E7.trans e8 trivial
  clear e8 E7 f1 f2 F1 F2 l1 l2 nq
  have la:=W4.len (z:=wa) (by simp)
  have lb:=W4.len (z:=wb) (by simp)
  walk_at "rd"
  refine ⟨⟨_,SqL.of h8⟩,?_⟩
  refine for_it (walk_list (xs:=(ts1++ts2).map V.ref)) (fun i σ H'=>∃ (o12 o13 o14:Option V),σ=[some (.ref a),some (.ref kq),some (.ref b),some (.ref wq),some (.str wa),some (.str wb),some (.str wx),some (.str wf),some (.str wg),some (.str wp),some (.str wq'),some (.str ⟨#[c]⟩),o12,o13,o14]∧Ev TS [] H8 H') ⟨_,_,_,rfl,Ev.refl _ _⟩ (fun i σ H' _ ⟨_,_,_,_,e⟩=>SqL.of (ev_lst e h8 trivial)) ?_ ?_
  ·rintro i v σ Hy H9 hi ⟨o12,o13,o14,rfl,e9⟩ ⟨rfl,hv⟩
   have hv:((ts1++ts2).map V.ref)[i]? = some v:=hv
   rw [List.getElem?_map] at hv
   obtain ⟨t,ht,rfl⟩:=Option.map_eq_some_iff.mp hv
   obtain ⟨r,l,hr1,g1,g2⟩:=F.at ht
   have ok:=rows04 W4 r (List.mem_of_getElem? hr1)
   unfold rowB4 at ok
   rw [Bool.and_eq_true] at ok
   refine ⟨t,_,rfl,SqT.of (ev_tup e9 g1),rfl,?_⟩
   walk_at "rd"
   refine ⟨by decide +kernel,js_c (n:=20) (y:=wa) (by decide +kernel) (by omega) (by decide) (ht_v rfl (by omega)) fun q1a1=>js_c (y:=" ") q1a1 (by decide +kernel) (by decide) ht_c fun q1a2=>js_c (y:=wb) q1a2 (by omega) (by decide) (ht_v rfl (by omega)) fun q1a3=>?_⟩
   walk_at "rd"
   refine ⟨by show 1≤sizeLine; decide +kernel,fun u1 n1=>?_⟩
   generalize hX:upd _ u1 _=Ha
   obtain ⟨ea,ha⟩:=new_facts (TS:=TS) hX n1
   clear hX
   walk_at "rs"
   have ha:Ha u1=some (.lst (([hd04 wa wb].map lineS).map V.str)):=by rw [ha,gs4_2]; rfl
   have len20:r.1.length≤20:=by
    have:=ok.1
    unfold txB at this
    rw [Bool.and_eq_true,Bool.and_eq_true] at this
    have:=of_decide_eq_true this.2.1
    rw [List.length_cons] at this
    omega
   walk_at "rd"
   refine a_cat (TS:=TS) ha (ev_lst (e9.trans ea trivial) g2 trivial) (by simp only [List.length_map]; exact le_line (by show 1+_≤_; omega)) fun u2 Hb n2 eb hb'=>?_
   rw [← List.map_append,← List.map_append] at hb'
   walk_at "rd"
   refine ref_of (T:=hd04 wa wb :: r.1) hb' rfl ok.1 (of_decide_eq_true ok.2) fun Hc ec=>?_
   walk_at "rd"
   refine a_ne4 ?_
   walk_at "rd"
   first | refine ifF rfl ?_ | skip
   exact ⟨_,_,_,rfl,((e9.trans ea trivial).trans eb trivial).trans ec trivial⟩
  rintro σ H9 ⟨o12,o13,o14,rfl,e9⟩
  walk_at "rd"
  exact ⟨wa,wb,wx,wf,wg,wp,wq',rfl,W4,fun H' _=>k H'⟩
end
end MV
namespace HdZ
open PySem PySem.Spec PyProof.Rows L2 SB He
section
variable {K:PySem.W.Frag} {C a:Addr}
theorem ini_ok {P:Program} {qual:Str} {st:Stmt} (e:fnZ K (ma K C "__init__")=fnV "__init__" qual st [("__class__" : Str)]) (b:iniB K C P.main.file qual=true) :
  ∃ oc od kV dc pm an q ct cc sl,K.lookup (ma K C "__init__")=some ⟨oc,od,.func (PySem.W.ksFn "__init__" qual (defArgs st) (defBody st) (defScope st) .none kV dc pm an (.ref q) ct cc),sl⟩∧PySem.W.codeIn K (.ref q) qual=true∧FileIs P K q∧CellIs K cc C:=by
 unfold fnZ at e
 unfold iniB at b
 cases ho:K.lookup (ma K C "__init__") with
 | none=>rw [ho] at e; cases e
 | some o =>
  rw [ho] at e b
  obtain ⟨oc,od,dt,sl⟩:=o
  cases dt with
  | func fd =>
   obtain ⟨n1,n2,n3,n4,n5,n6,n7,n8,n9,n10,n11,n12,n13,n14,n15⟩:=fd
   have e2:(some (n1,n2,n3,n4,n5,n6,n7.map Prod.fst,n15):FnZ)=fnV "__init__" qual st [("__class__" : Str)]:=e
   unfold fnV at e2
   simp only [Option.some.injEq,Prod.mk.injEq] at e2
   obtain ⟨h1,h2,h3,h4,h5,h6,h7,h8⟩:=e2
   obtain ⟨b1,b2⟩:=ba b
   obtain ⟨b3,b4⟩:=ba b2
   obtain ⟨b5,b6⟩:=ba b4
   dsimp only at b1 b3 b5 b6
   subst h1 h2 h3 h4 h5 h6 h8
   have hn:n8=.none:=by cases n8 <;> first | rfl | cases b1
   subst hn
   cases n13 with
   | ref q =>
    match n7,h7 with
    | [(x,cc)],h7 =>
     obtain rfl:x = "__class__":=by simpa using h7
     refine ⟨oc,od,n9,n10,n11,n12,q,n14,cc,sl,rfl,b3,?_,?_⟩
     ·dsimp only at b5
      split at b5
      ·rename_i c1 c2 vs c3 hq
       split at b5
       ·rename_i f t hv
        exact ⟨c1,c2,vs,c3,f,t,hq,hv,b5⟩
       ·cases b5
      ·cases b5
     ·dsimp only at b6
      split at b6
      ·rename_i c1 c2 C' c3 hq
       have:=beq_iff_eq.mp b6
       subst this
       exact ⟨c1,c2,c3,hq⟩
      ·cases b6
   | _=>cases b3
  | _=>cases e
end
end HdZ
namespace MV
open PySem PySem.Spec PyProof.Rows L2 SB MM NdefX
theorem all_mk {l:PySem.W.OpenLaw} {w:World} {K:PySem.W.Frag} {h:Heap} {mg:Str→Option Value} {fa:Addr} (X:K.In h) (hfa:mg "law"=some (.ref fa))
  {fbag ftake fany_words frefused fkeeper_refused fprocedures fplans fkept_right fgroups_right fisword fisnml fistest farewords fcnames fisrow fcrows fctable flaw CR frd_init frd_accepts frd_lists frd_define frd_end frd_else frd_take frd_simple CP fpg_init CK fk_init Ek_init XBadLine iBadLine XBadNames iBadNames KPT SGN BLK:Addr} {fdbag fdtake fdany_words fdrefused fdkeeper_refused fdprocedures fdplans fdkept_right fdgroups_right fdisword fdisnml fdistest fdarewords fdcnames fdisrow fdcrows fdctable fdlaw fdrd_init fdrd_accepts fdrd_lists fdrd_define fdrd_end fdrd_else fdrd_take fdrd_simple fdpg_init fdk_init:FuncData}
  (abag:mg "_law_bag"=some (.ref fbag))
  (Fnbag:FunD K "_law_bag" "_law_bag" (defArgs s_bag) (defBody s_bag) (defScope s_bag) [] [] fbag fdbag)
  (atake:mg "_law_take"=some (.ref ftake))
  (Fntake:FunD K "_law_take" "_law_take" (defArgs s_take) (defBody s_take) (defScope s_take) [] [] ftake fdtake)
  (aany_words:mg "_law_any_words"=some (.ref fany_words))
  (Fnany_words:FunD K "_law_any_words" "_law_any_words" (defArgs s_any_words) (defBody s_any_words) (defScope s_any_words) [] [] fany_words fdany_words)
  (arefused:mg "_law_refused"=some (.ref frefused))
  (Fnrefused:FunD K "_law_refused" "_law_refused" (defArgs s_refused) (defBody s_refused) (defScope s_refused) [] [] frefused fdrefused)
  (akeeper_refused:mg "_law_keeper_refused"=some (.ref fkeeper_refused))
  (Fnkeeper_refused:FunD K "_law_keeper_refused" "_law_keeper_refused" (defArgs s_keeper_refused) (defBody s_keeper_refused) (defScope s_keeper_refused) [] [] fkeeper_refused fdkeeper_refused)
  (aprocedures:mg "_law_procedures"=some (.ref fprocedures))
  (Fnprocedures:FunD K "_law_procedures" "_law_procedures" (defArgs s_procedures) (defBody s_procedures) (defScope s_procedures) [] [] fprocedures fdprocedures)
  (aplans:mg "_law_plans"=some (.ref fplans))
  (Fnplans:FunD K "_law_plans" "_law_plans" (defArgs s_plans) (defBody s_plans) (defScope s_plans) [] [] fplans fdplans)
  (akept_right:mg "_law_kept_right"=some (.ref fkept_right))
  (Fnkept_right:FunD K "_law_kept_right" "_law_kept_right" (defArgs s_kept_right) (defBody s_kept_right) (defScope s_kept_right) [] [] fkept_right fdkept_right)
  (agroups_right:mg "_law_groups_right"=some (.ref fgroups_right))
  (Fngroups_right:FunD K "_law_groups_right" "_law_groups_right" (defArgs s_groups_right) (defBody s_groups_right) (defScope s_groups_right) [] [] fgroups_right fdgroups_right)
  (aisword:mg "is_word"=some (.ref fisword))
  (Fnisword:FunD K "is_word" "is_word" (defArgs s_isword) (defBody s_isword) (defScope s_isword) [] [] fisword fdisword)
  (aisnml:mg "is_numeral"=some (.ref fisnml))
  (Fnisnml:FunD K "is_numeral" "is_numeral" (defArgs s_isnml) (defBody s_isnml) (defScope s_isnml) [] [] fisnml fdisnml)
  (aistest:mg "is_test"=some (.ref fistest))
  (Fnistest:FunD K "is_test" "is_test" (defArgs s_istest) (defBody s_istest) (defScope s_istest) [] [] fistest fdistest)
  (aarewords:mg "are_words"=some (.ref farewords))
  (Fnarewords:FunD K "are_words" "are_words" (defArgs s_arewords) (defBody s_arewords) (defScope s_arewords) [] [] farewords fdarewords)
  (acnames:mg "check_names"=some (.ref fcnames))
  (Fncnames:FunD K "check_names" "check_names" (defArgs s_cnames) (defBody s_cnames) (defScope s_cnames) [] [] fcnames fdcnames)
  (aisrow:mg "is_row"=some (.ref fisrow))
  (Fnisrow:FunD K "is_row" "is_row" (defArgs s_isrow) (defBody s_isrow) (defScope s_isrow) [] [] fisrow fdisrow)
  (acrows:mg "check_rows"=some (.ref fcrows))
  (Fncrows:FunD K "check_rows" "check_rows" (defArgs s_crows) (defBody s_crows) (defScope s_crows) [] [] fcrows fdcrows)
  (actable:mg "check_table"=some (.ref fctable))
  (Fnctable:FunD K "check_table" "check_table" (defArgs s_ctable) (defBody s_ctable) (defScope s_ctable) [] [] fctable fdctable)
  (alaw:mg "law"=some (.ref flaw))
  (Fnlaw:FunD K "law" "law" (defArgs s_law) (defBody s_law) (defScope s_law) [] [] flaw fdlaw)
  (aCR:mg "Reader"=some (.ref CR))
  (clCR:Cls K CR)
  (mkCR:PySem.W.makesIn K CR=true)
  (kcCR:PySem.W.keepIn K (.ref CR)=true)
  (ard_init:PySem.W.findIn K (.ref CR) "__init__"=some (some (.ref frd_init)))
  (ird_init:PySem.W.isFn K (.ref frd_init)=true)
  (Fnrd_init:FunD K "__init__" "Reader.__init__" (defArgs s_rd_init) (defBody s_rd_init) (defScope s_rd_init) [] [] frd_init fdrd_init)
  (ard_accepts:PySem.W.findIn K (.ref CR) "accepts"=some (some (.ref frd_accepts)))
  (ird_accepts:PySem.W.isFn K (.ref frd_accepts)=true)
  (Fnrd_accepts:FunD K "accepts" "Reader.accepts" (defArgs s_rd_accepts) (defBody s_rd_accepts) (defScope s_rd_accepts) [] [] frd_accepts fdrd_accepts)
  (ard_lists:PySem.W.findIn K (.ref CR) "accept_lists"=some (some (.ref frd_lists)))
  (ird_lists:PySem.W.isFn K (.ref frd_lists)=true)
  (Fnrd_lists:FunD K "accept_lists" "Reader.accept_lists" (defArgs s_rd_lists) (defBody s_rd_lists) (defScope s_rd_lists) [] [] frd_lists fdrd_lists)
  (ard_define:PySem.W.findIn K (.ref CR) "accept_define"=some (some (.ref frd_define)))
  (ird_define:PySem.W.isFn K (.ref frd_define)=true)
  (Fnrd_define:FunD K "accept_define" "Reader.accept_define" (defArgs s_rd_define) (defBody s_rd_define) (defScope s_rd_define) [] [] frd_define fdrd_define)
  (ard_end:PySem.W.findIn K (.ref CR) "accept_end"=some (some (.ref frd_end)))
  (ird_end:PySem.W.isFn K (.ref frd_end)=true)
  (Fnrd_end:FunD K "accept_end" "Reader.accept_end" (defArgs s_rd_end) (defBody s_rd_end) (defScope s_rd_end) [] [] frd_end fdrd_end)
  (ard_else:PySem.W.findIn K (.ref CR) "accept_else"=some (some (.ref frd_else)))
  (ird_else:PySem.W.isFn K (.ref frd_else)=true)
  (Fnrd_else:FunD K "accept_else" "Reader.accept_else" (defArgs s_rd_else) (defBody s_rd_else) (defScope s_rd_else) [] [] frd_else fdrd_else)
  (ard_take:PySem.W.findIn K (.ref CR) "accept_take"=some (some (.ref frd_take)))
  (ird_take:PySem.W.isFn K (.ref frd_take)=true)
  (Fnrd_take:FunD K "accept_take" "Reader.accept_take" (defArgs s_rd_take) (defBody s_rd_take) (defScope s_rd_take) [] [] frd_take fdrd_take)
  (ard_simple:PySem.W.findIn K (.ref CR) "accept_simple"=some (some (.ref frd_simple)))
  (ird_simple:PySem.W.isFn K (.ref frd_simple)=true)
  (Fnrd_simple:FunD K "accept_simple" "Reader.accept_simple" (defArgs s_rd_simple) (defBody s_rd_simple) (defScope s_rd_simple) [] [] frd_simple fdrd_simple)
  (rngroups:PySem.W.findIn K (.ref CR) "groups"=some none)
  (rnprocedures:PySem.W.findIn K (.ref CR) "procedures"=some none)
  (rndefining:PySem.W.findIn K (.ref CR) "defining"=some none)
  (rnblocks:PySem.W.findIn K (.ref CR) "blocks"=some none)
  (rnlists:PySem.W.findIn K (.ref CR) "lists"=some none)
  (rnplans:PySem.W.findIn K (.ref CR) "plans"=some none)
  (rnstarted:PySem.W.findIn K (.ref CR) "started"=some none)
  (aCP:mg "Program"=some (.ref CP))
  (clCP:Cls K CP)
  (mkCP:PySem.W.makesIn K CP=true)
  (kcCP:PySem.W.keepIn K (.ref CP)=true)
  (apg_init:PySem.W.findIn K (.ref CP) "__init__"=some (some (.ref fpg_init)))
  (ipg_init:PySem.W.isFn K (.ref fpg_init)=true)
  (Fnpg_init:FunD K "__init__" "Program.__init__" (defArgs s_pg_init) (defBody s_pg_init) (defScope s_pg_init) [] [] fpg_init fdpg_init)
  (pnlines:PySem.W.findIn K (.ref CP) "lines"=some none)
  (pnscopes:PySem.W.findIn K (.ref CP) "scopes"=some none)
  (pngroups:PySem.W.findIn K (.ref CP) "groups"=some none)
  (pnnames:PySem.W.findIn K (.ref CP) "names"=some none)
  (aCK:mg "Keeper"=some (.ref CK))
  (clCK:Cls K CK)
  (mkCK:PySem.W.makesIn K CK=true)
  (kcCK:PySem.W.keepIn K (.ref CK)=true)
  (ak_init:PySem.W.findIn K (.ref CK) "__init__"=some (some (.ref fk_init)))
  (ik_init:PySem.W.isFn K (.ref fk_init)=true)
  (Fnk_init:FunD K "__init__" "Keeper.__init__" (defArgs s_k_init) (defBody s_k_init) (defScope s_k_init) [.ref Ek_init] [] fk_init fdk_init)
  (nkn:PySem.W.findIn K (.ref CK) "names"=some none)
  (nkh:PySem.W.findIn K (.ref CK) "held"=some none)
  (aBadLine:mg "BadLine"=some (.ref XBadLine))
  (oxBadLine:∃ nm q N bs bm sn sub ab col dd k0 k1 k2 k3 k5,K.lookup XBadLine=some (excClassObj nm q XBadLine N bs bm true sn sub ab col dd k0 k1 k2 k3 k5 "ValueError.__new__")∧PySem.HandSPX.refsVE bm=true)
  (saBadLine:PySem.W.findIn K (.ref XBadLine) "__setattr__"=some (some (.builtin "object.__setattr__")))
  (ecBadLine:PySem.W.subIn K (.ref XBadLine) (.type "BaseException")=some true)
  (tyBadLine:PySem.W.typeIn K (.ref XBadLine)=some (.type "type"))
  (kcBadLine:PySem.W.keepIn K (.ref XBadLine)=true)
  (inBadLine:PySem.W.findIn K (.ref XBadLine) "__init__"=some (some (.ref iBadLine)))
  (tiBadLine:PySem.W.typeIn K (.ref iBadLine)=some (.type "function"))
  (mrBadLine:PySem.W.mroIn K XBadLine (.ref XBadLine)=some true)
  (suBadLine:PySem.W.ks_superIn K XBadLine XBadLine "__init__"=some (some (.builtin "ValueError.__init__")))
  (sbBadLine:PySem.W.subIn K (.ref XBadLine) (.type "ValueError")=some true)
  (nfBadLine:∃ oc od kV dc pm an q ct cc sl,K.lookup iBadLine=some ⟨oc,od,.func (PySem.W.ksFn "__init__" "BadLine.__init__" (defArgs s_BadLine) (defBody s_BadLine) (defScope s_BadLine) .none kV dc pm an (.ref q) ct cc),sl⟩∧PySem.W.codeIn K (.ref q) "BadLine.__init__"=true∧FileIs l.prog K q∧CellIs K cc XBadLine)
  (noBadLine_at:PySem.W.findIn K (.ref XBadLine) "at"=some none)
  (gaBadLine:PySem.W.findIn K (.ref XBadLine) "__getattribute__"=some (some (.builtin "BaseException.__getattribute__")))
  (ggBadLine:PySem.W.findIn K (.ref XBadLine) "__getattr__"=some none)
  (hdBadLine:PySem.W.hasDictIn K XBadLine=true)
  (aBadNames:mg "BadNames"=some (.ref XBadNames))
  (oxBadNames:∃ nm q N bs bm sn sub ab col dd k0 k1 k2 k3 k5,K.lookup XBadNames=some (excClassObj nm q XBadNames N bs bm true sn sub ab col dd k0 k1 k2 k3 k5 "ValueError.__new__")∧PySem.HandSPX.refsVE bm=true)
  (saBadNames:PySem.W.findIn K (.ref XBadNames) "__setattr__"=some (some (.builtin "object.__setattr__")))
  (ecBadNames:PySem.W.subIn K (.ref XBadNames) (.type "BaseException")=some true)
  (tyBadNames:PySem.W.typeIn K (.ref XBadNames)=some (.type "type"))
  (kcBadNames:PySem.W.keepIn K (.ref XBadNames)=true)
  (inBadNames:PySem.W.findIn K (.ref XBadNames) "__init__"=some (some (.ref iBadNames)))
  (tiBadNames:PySem.W.typeIn K (.ref iBadNames)=some (.type "function"))
  (mrBadNames:PySem.W.mroIn K XBadNames (.ref XBadNames)=some true)
  (suBadNames:PySem.W.ks_superIn K XBadNames XBadNames "__init__"=some (some (.builtin "ValueError.__init__")))
  (sbBadNames:PySem.W.subIn K (.ref XBadNames) (.type "ValueError")=some true)
  (nfBadNames:∃ oc od kV dc pm an q ct cc sl,K.lookup iBadNames=some ⟨oc,od,.func (PySem.W.ksFn "__init__" "BadNames.__init__" (defArgs s_BadNames) (defBody s_BadNames) (defScope s_BadNames) .none kV dc pm an (.ref q) ct cc),sl⟩∧PySem.W.codeIn K (.ref q) "BadNames.__init__"=true∧FileIs l.prog K q∧CellIs K cc XBadNames)
  (noBadNames_at:PySem.W.findIn K (.ref XBadNames) "at"=some none)
  (gaBadNames:PySem.W.findIn K (.ref XBadNames) "__getattribute__"=some (some (.builtin "BaseException.__getattribute__")))
  (ggBadNames:PySem.W.findIn K (.ref XBadNames) "__getattr__"=some none)
  (hdBadNames:PySem.W.hasDictIn K XBadNames=true)
  (thi:PySem.W.nsIn K cStatics "thirdparty.any"=some none)
  (z_super:mg "super"=none)
  (tops:(l.prog.main.scope.names.lookup ("super" : Str)).isSome=false)
  (z_len:mg "len"=none)
  (z_abs:mg "abs"=none)
  (z_int:mg "int"=none)
  (z_range:mg "range"=none)
  (z_list:mg "list"=none)
  (z_tuple:mg "tuple"=none)
  (z_str:mg "str"=none)
  (z_max:mg "max"=none)
  (z_min:mg "min"=none)
  (z_enumerate:mg "enumerate"=none)
  (z_isinstance:mg "isinstance"=none)
  (z_bool:mg "bool"=none)
  (z_all:mg "all"=none)
  (z_any:mg "any"=none)
  (z_set:mg "set"=none)
  (z_zip:mg "zip"=none)
  (g_let:∃ t,mg "LETTERS"=some (.str LET t))
  (g_dig:∃ t,mg "DIGITS"=some (.int 20 t))
  (g_kpt:mg "KEPT"=some (.ref KPT))
  (tug_kpt:∀ H:Hp,SqT K H KPT [.str "lists",.str "define",.str "end",.str "take",.str "order",.str "down",.str "keep",.str "turn",.str "new",.str "front",.str "back",.str "any",.str "spot",.str "move",.str "cut",.str "set",.str "pour",.str "into",.str "check",.str "stop",.str "call",.str "maybe",.str "else",.str "repeat",.str "guard"])
  (g_sgn:mg "SIGNS"=some (.ref SGN))
  (tug_sgn:∀ H:Hp,SqT K H SGN [.str "<",.str ">=",.str "=",.str "!="])
  (g_blk:mg "BLOCKS"=some (.ref BLK))
  (tug_blk:∀ H:Hp,SqT K H BLK [.str "maybe",.str "repeat",.str "guard"])
  (hexB:PySem.W.exmOne K (.ref XBadLine) (.ref XBadLine)=some true)
  (hexN:PySem.W.exmOne K (.ref XBadNames) (.ref XBadNames)=some true)
  (g_msn:∃ t,mg "MOST_NAMES"=some (.int 6 t))
  (etEk_init:∀ H:Hp,SqT K H Ek_init [])
  : LamX.LawAtS l w K CX0 10 63 "_law_script" mg fa h:=by
 have e:=hfa.symm.trans alaw
 cases e
 have B:Blt mg:=⟨z_len,z_abs,z_int,z_range,z_list,z_tuple,z_str,z_max,z_min,z_enumerate,z_isinstance⟩
 have kbag:=Fnbag.kp
 replace Fnbag:=HdZ.fun_of Fnbag
 have ktake:=Fntake.kp
 replace Fntake:=HdZ.fun_of Fntake
 have kany_words:=Fnany_words.kp
 replace Fnany_words:=HdZ.fun_of Fnany_words
 have krefused:=Fnrefused.kp
 replace Fnrefused:=HdZ.fun_of Fnrefused
 have kkeeper_refused:=Fnkeeper_refused.kp
 replace Fnkeeper_refused:=HdZ.fun_of Fnkeeper_refused
 have kprocedures:=Fnprocedures.kp
 replace Fnprocedures:=HdZ.fun_of Fnprocedures
 have kplans:=Fnplans.kp
 replace Fnplans:=HdZ.fun_of Fnplans
 have kkept_right:=Fnkept_right.kp
 replace Fnkept_right:=HdZ.fun_of Fnkept_right
 have kgroups_right:=Fngroups_right.kp
 replace Fngroups_right:=HdZ.fun_of Fngroups_right
 have kisword:=Fnisword.kp
 replace Fnisword:=HdZ.fun_of Fnisword
 have kisnml:=Fnisnml.kp
 replace Fnisnml:=HdZ.fun_of Fnisnml
 have kistest:=Fnistest.kp
 replace Fnistest:=HdZ.fun_of Fnistest
 have karewords:=Fnarewords.kp
 replace Fnarewords:=HdZ.fun_of Fnarewords
 have kcnames:=Fncnames.kp
 replace Fncnames:=HdZ.fun_of Fncnames
 have kisrow:=Fnisrow.kp
 replace Fnisrow:=HdZ.fun_of Fnisrow
 have kcrows:=Fncrows.kp
 replace Fncrows:=HdZ.fun_of Fncrows
 have kctable:=Fnctable.kp
 replace Fnctable:=HdZ.fun_of Fnctable
 have klaw:=Fnlaw.kp
 have krd_init:=Fnrd_init.kp
 replace Fnrd_init:=HdZ.fun_of Fnrd_init
 have krd_accepts:=Fnrd_accepts.kp
 replace Fnrd_accepts:=HdZ.fun_of Fnrd_accepts
 have krd_lists:=Fnrd_lists.kp
 replace Fnrd_lists:=HdZ.fun_of Fnrd_lists
 have krd_define:=Fnrd_define.kp
 replace Fnrd_define:=HdZ.fun_of Fnrd_define
 have krd_end:=Fnrd_end.kp
 replace Fnrd_end:=HdZ.fun_of Fnrd_end
 have krd_else:=Fnrd_else.kp
 replace Fnrd_else:=HdZ.fun_of Fnrd_else
 have krd_take:=Fnrd_take.kp
 replace Fnrd_take:=HdZ.fun_of Fnrd_take
 have krd_simple:=Fnrd_simple.kp
 replace Fnrd_simple:=HdZ.fun_of Fnrd_simple
 have kpg_init:=Fnpg_init.kp
 replace Fnpg_init:=HdZ.fun_of Fnpg_init
 have kk_init:=Fnk_init.kp
 have gl_g_let:∃ u,mg "LETTERS"=some u∧RelV (.str LET) u:=by
  obtain ⟨t,e⟩:=g_let
  exact ⟨_,e,⟨_,rfl⟩⟩
 have gl_g_dig:∃ u,mg "DIGITS"=some u∧RelV (.int 20) u:=by
  obtain ⟨t,e⟩:=g_dig
  exact ⟨_,e,⟨_,rfl⟩⟩
 have gl_g_kpt:∃ u,mg "KEPT"=some u∧RelV (.ref KPT) u:=⟨_,g_kpt,rfl⟩
 have gl_g_sgn:∃ u,mg "SIGNS"=some u∧RelV (.ref SGN) u:=⟨_,g_sgn,rfl⟩
 have gl_g_blk:∃ u,mg "BLOCKS"=some u∧RelV (.ref BLK) u:=⟨_,g_blk,rfl⟩
 have gl_g_msn:∃ u,mg "MOST_NAMES"=some u∧RelV (.int 6) u:=by
  obtain ⟨t,e⟩:=g_msn
  exact ⟨_,e,⟨_,rfl⟩⟩
 obtain ⟨nmBadLine,qnBadLine,NBadLine,bsBadLine,bmBadLine,snBadLine,subBadLine,abBadLine,colBadLine,ddBadLine,k0BadLine,k1BadLine,k2BadLine,k3BadLine,k5BadLine,lBadLine,rBadLine⟩:=oxBadLine
 obtain ⟨ocBadLine,odBadLine,kVBadLine,dcBadLine,pmBadLine,anBadLine,qBadLine,ctBadLine,ccBadLine,slBadLine,fnBadLine,cdBadLine,FIBadLine,CIBadLine⟩:=nfBadLine
 have TBadLine:XcF l.prog K mg "BadLine" XBadLine iBadLine:=⟨⟨⟨_,_,_,_,_,_,_,_,_,_,_,_,_,_,_,lBadLine,rBadLine⟩,saBadLine,ecBadLine,tyBadLine,kcBadLine⟩,inBadLine,tiBadLine,⟨_,by unfold PySem.W.clsIn; rw [lBadLine] <;> rfl⟩,mrBadLine,suBadLine,sbBadLine,thi,tops,z_super,aBadLine⟩
 have FBadLine:XfC K XBadLine:=⟨gaBadLine,ggBadLine,ecBadLine,hdBadLine⟩
 obtain ⟨nmBadNames,qnBadNames,NBadNames,bsBadNames,bmBadNames,snBadNames,subBadNames,abBadNames,colBadNames,ddBadNames,k0BadNames,k1BadNames,k2BadNames,k3BadNames,k5BadNames,lBadNames,rBadNames⟩:=oxBadNames
 obtain ⟨ocBadNames,odBadNames,kVBadNames,dcBadNames,pmBadNames,anBadNames,qBadNames,ctBadNames,ccBadNames,slBadNames,fnBadNames,cdBadNames,FIBadNames,CIBadNames⟩:=nfBadNames
 have TBadNames:XcF l.prog K mg "BadNames" XBadNames iBadNames:=⟨⟨⟨_,_,_,_,_,_,_,_,_,_,_,_,_,_,_,lBadNames,rBadNames⟩,saBadNames,ecBadNames,tyBadNames,kcBadNames⟩,inBadNames,tiBadNames,⟨_,by unfold PySem.W.clsIn; rw [lBadNames] <;> rfl⟩,mrBadNames,suBadNames,sbBadNames,thi,tops,z_super,aBadNames⟩
 have FBadNames:XfC K XBadNames:=⟨gaBadNames,ggBadNames,ecBadNames,hdBadNames⟩
 refine ⟨fdlaw,[],spLaw K [],(fun _ hp=>nomatch hp),(fun _ hp=>nomatch hp),(fun _ hp=>nomatch hp),fun s u=>Fnlaw.bindsA (ps:=["_law_script"]) (fun _ _ _ _ _ _ us hl=>match us,hl with | [_],_=>rfl) s [u] rfl,fun H a ns hl _ hH hS=>?_,fun base _ _ hTB=>?_⟩
 ·refine ⟨a,ns,rfl,hS,hl,(fun _ hp=>nomatch hp),fun _=>rfl⟩
 have QBadLine:Xc l.prog w K mg base 1 "BadLine" XBadLine ["at"]:=ok_x1 TBadLine fnBadLine cdBadLine (nscope_by (by decide +kernel)) rfl rfl FIBadLine CIBadLine rfl noBadLine_at (by decide) (by decide) (.all fun us hl=>match us,hl with | [_,_],_=>rfl)
 have QBadNames:Xc l.prog w K mg base 1 "BadNames" XBadNames ["at"]:=ok_x1 TBadNames fnBadNames cdBadNames (nscope_by (by decide +kernel)) rfl rfl FIBadNames CIBadNames rfl noBadNames_at (by decide) (by decide) (.all fun us hl=>match us,hl with | [_,_],_=>rfl)
 have TW:TxtP K mg KPT SGN BLK BLK:=⟨B,z_bool,z_all,z_any,z_set,gl_g_let,gl_g_dig,gl_g_kpt,gl_g_sgn,gl_g_blk,tug_kpt,tug_sgn,tug_blk⟩
 have TR:TxtRd K mg KPT SGN BLK BLK CR:=⟨TW,clCR,(List.forall_mem_cons.mpr ⟨rngroups,(List.forall_mem_cons.mpr ⟨rnprocedures,(List.forall_mem_cons.mpr ⟨rndefining,(List.forall_mem_cons.mpr ⟨rnblocks,(List.forall_mem_cons.mpr ⟨rnlists,(List.forall_mem_cons.mpr ⟨rnplans,(List.forall_mem_cons.mpr ⟨rnstarted,(fun _ z=>nomatch z)⟩)⟩)⟩)⟩)⟩)⟩)⟩),aCR⟩
 have T:TxtPg K mg KPT SGN BLK BLK CR CP:=⟨TR,clCP,(List.forall_mem_cons.mpr ⟨pnlines,(List.forall_mem_cons.mpr ⟨pnscopes,(List.forall_mem_cons.mpr ⟨pngroups,(List.forall_mem_cons.mpr ⟨pnnames,(fun _ z=>nomatch z)⟩)⟩)⟩)⟩),aCP⟩
 have W1:Cl l.prog w K mg base CX0 1 "is_word" (spIsWord []):=⟨_,ok_isword Fnisword TW,aisword,kisword⟩
 have W2:Cl l.prog w K mg base CX0 1 "is_numeral" (spIsNml []):=⟨_,ok_isnml Fnisnml TW,aisnml,kisnml⟩
 have W3:Cl l.prog w K mg base CX0 2 "is_test" (spIsTest []):=⟨_,ok_istest Fnistest TW W2,aistest,kistest⟩
 have W4:Cl l.prog w K mg base CX0 2 "are_words" (spAreW []):=⟨_,ok_arewords Fnarewords TW W1,aarewords,karewords⟩
 have R1:Me l.prog w K mg base CX0 3 CR "accept_lists" (spAcc [] K CR accLists):=⟨_,ok_rd_lists Fnrd_lists TR W4,ard_lists,ird_lists,krd_lists⟩
 have R2:Me l.prog w K mg base CX0 3 CR "accept_define" (spAcc [] K CR accDefine):=⟨_,ok_rd_define Fnrd_define TR W1 W4,ard_define,ird_define,krd_define⟩
 have R3:Me l.prog w K mg base CX0 1 CR "accept_end" (spAcc [] K CR accEnd):=⟨_,ok_rd_end Fnrd_end TR,ard_end,ird_end,krd_end⟩
 have R4:Me l.prog w K mg base CX0 1 CR "accept_else" (spAcc [] K CR accElse):=⟨_,ok_rd_else Fnrd_else TR,ard_else,ird_else,krd_else⟩
 have R5:Me l.prog w K mg base CX0 3 CR "accept_take" (spAcc [] K CR accTake):=⟨_,ok_rd_take Fnrd_take TR W1 W3,ard_take,ird_take,krd_take⟩
 have R6:Me l.prog w K mg base CX0 2 CR "accept_simple" (spAcc [] K CR accSim):=⟨_,ok_rd_simple Fnrd_simple TR W2,ard_simple,ird_simple,krd_simple⟩
 have R7:Me l.prog w K mg base CX0 4 CR "accepts" (spAccs [] K CR):=⟨_,ok_rd_accepts Fnrd_accepts TR R1 R2 R3 R4 R5 R6,ard_accepts,ird_accepts,krd_accepts⟩
 have R0:Ml l.prog w K mg base CX0 1 "Reader" CR (spRdI [] K CR):=⟨_,⟨mkCR,ard_init,ird_init,kcCR⟩,ok_rd_init Fnrd_init TR,TR.g_Reader⟩
 have M1:Ml l.prog w K mg base (L2.CX l.prog w) 5 "Program" CP (spPgI [] K CP XBadLine):=⟨_,⟨mkCP,apg_init,ipg_init,kcCP⟩,ok_pg_init Fnpg_init T R0 R7 QBadLine,T.g_Program⟩
 have TK:TxtK4 K mg KPT SGN BLK BLK CR CP CK:=⟨T,clCK,nkn,nkh,aCK⟩
 have J0:Cl l.prog w K mg base CX0 3 "is_row" (fun _ _ _ _=>False):=⟨_,fun _ _ _ _ _ _ _ _ _ _ _ h=>h.elim,aisrow,kisrow⟩
 have J1:Cl l.prog w K mg base (L2.CX l.prog w) 3 "check_names" (spCN04 [] XBadNames):=⟨_,ok_cnames Fncnames TK gl_g_msn QBadNames W1,acnames,kcnames⟩
 have J2:Cl l.prog w K mg base CX0 4 "check_rows" (spCT04 [] K):=⟨_,ok_crows Fncrows TK J0,acrows,kcrows⟩
 have J3:Cl l.prog w K mg base CX0 5 "check_table" (spCT04 [] K):=⟨_,ok_ctable Fnctable TK J2,actable,kctable⟩
 have Fk:=Fnk_init
 obtain ⟨ds1,vd1,bd1⟩:=Fk.binds1 (ps:=["self","names","rows"]) 2 0 (List.cons_ne_nil _ _) rfl fun _ _ _ _ _ _ _ us its hu hi=>match us,its,hu,hi with | [_,_],[_],_,_=>⟨_,rfl,rfl⟩
 have he0:∀ H:Hp,SqT K H Ek_init []:=etEk_init
 have MKe:Ml l.prog w K mg base (L2.CX l.prog w) 6 "Keeper" CK (fun vs H Q E=>spKI04 [] K CK XBadNames (vs++[.ref Ek_init]) H Q E):=⟨_,⟨mkCK,ak_init,ik_init,kcCK⟩,FnOk.raw (okf_kinit Fk TK J1 J3) bd1 vd1,TK.g_Keeper⟩
 have D1:Cl l.prog w K mg base CX0 1 "_law_bag" (spBag K):=⟨_,ok_bag Fnbag B,abag,kbag⟩
 have D2:Cl l.prog w K mg base CX0 1 "_law_take" (spTake):=⟨_,ok_take Fntake B,atake,ktake⟩
 have D4:Cl l.prog w K mg base CX0 3 "_law_any_words" (spAny []):=⟨_,ok_any_words Fnany_words B D2,aany_words,kany_words⟩
 have D5:Cl l.prog w K mg base CX0 7 "_law_refused" (spRef04 []):=⟨_,ok_refused Fnrefused T M1 (aBadLine) FBadLine noBadLine_at hexB,arefused,krefused⟩
 have D6:Cl l.prog w K mg base CX0 8 "_law_keeper_refused" (spKRef04 []):=⟨_,ok_krefused Fnkeeper_refused TK he0 MKe (aBadNames) FBadNames noBadNames_at hexN,akeeper_refused,kkeeper_refused⟩
 have D7:Cl l.prog w K mg base CX0 1 "_law_procedures" (spProcs4 []):=⟨_,ok_procedures Fnprocedures ,aprocedures,kprocedures⟩
 have D8:Cl l.prog w K mg base CX0 1 "_law_plans" (spPlans4 []):=⟨_,ok_plans Fnplans ,aplans,kplans⟩
 have D9:Cl l.prog w K mg base CX0 9 "_law_kept_right" (spKept4 []):=⟨_,ok_kept_right Fnkept_right B D5 D6,akept_right,kkept_right⟩
 have D10:Cl l.prog w K mg base CX0 8 "_law_groups_right" (spGrp4 []):=⟨_,ok_groups_right Fngroups_right B D5,agroups_right,kgroups_right⟩
 exact ok_law [] (HdZ.fun_of Fnlaw) T D1 D2 D4 D9 D7 D8 D5 D10
end MV
namespace HdE
open PySem PySem.Spec PyProof.Rows L2 SB MV
theorem facts {w:World} {K:PySem.W.Frag} {h:Heap} {mg:Str→Option Value} {f:Addr} (X:K.In h) (G:h.Ns mainGlobals mg) (hfa:mg ("law" : Str)=some (.ref f)) (c:HdZ.SaysZ fa fn tf ex xs w h K):LamX.LawAtS PySem.Challenge.rw_sidelists_k04_scopes_and_names w K CX0 10 63 "_law_script" mg f h:=by
 have cd:He.SaysD fa fn K:=c.x.t.d
 have hm:(exL K).all id=true:=c.x.more
 obtain ⟨fd_bag,F_bag⟩:=cd.def_ 0 rfl
 obtain ⟨fd_take,F_take⟩:=cd.def_ 1 rfl
 obtain ⟨fd_any_words,F_any_words⟩:=cd.def_ 2 rfl
 obtain ⟨fd_refused,F_refused⟩:=cd.def_ 3 rfl
 obtain ⟨fd_keeper_refused,F_keeper_refused⟩:=cd.def_ 4 rfl
 obtain ⟨fd_procedures,F_procedures⟩:=cd.def_ 5 rfl
 obtain ⟨fd_plans,F_plans⟩:=cd.def_ 6 rfl
 obtain ⟨fd_kept_right,F_kept_right⟩:=cd.def_ 7 rfl
 obtain ⟨fd_groups_right,F_groups_right⟩:=cd.def_ 8 rfl
 obtain ⟨fd_isword,F_isword⟩:=cd.def_ 9 rfl
 obtain ⟨fd_isnml,F_isnml⟩:=cd.def_ 10 rfl
 obtain ⟨fd_istest,F_istest⟩:=cd.def_ 11 rfl
 obtain ⟨fd_arewords,F_arewords⟩:=cd.def_ 12 rfl
 obtain ⟨fd_cnames,F_cnames⟩:=cd.def_ 13 rfl
 obtain ⟨fd_isrow,F_isrow⟩:=cd.def_ 14 rfl
 obtain ⟨fd_crows,F_crows⟩:=cd.def_ 15 rfl
 obtain ⟨fd_ctable,F_ctable⟩:=cd.def_ 16 rfl
 obtain ⟨fd_law,F_law⟩:=cd.def_ 17 rfl
 obtain ⟨fd_rd_init,F_rd_init⟩:=cd.def_ 18 rfl
 obtain ⟨fd_rd_accepts,F_rd_accepts⟩:=cd.def_ 19 rfl
 obtain ⟨fd_rd_lists,F_rd_lists⟩:=cd.def_ 20 rfl
 obtain ⟨fd_rd_define,F_rd_define⟩:=cd.def_ 21 rfl
 obtain ⟨fd_rd_end,F_rd_end⟩:=cd.def_ 22 rfl
 obtain ⟨fd_rd_else,F_rd_else⟩:=cd.def_ 23 rfl
 obtain ⟨fd_rd_take,F_rd_take⟩:=cd.def_ 24 rfl
 obtain ⟨fd_rd_simple,F_rd_simple⟩:=cd.def_ 25 rfl
 obtain ⟨fd_pg_init,F_pg_init⟩:=cd.def_ 26 rfl
 obtain ⟨fd_k_init,F_k_init⟩:=cd.def_ 27 rfl
 exact MV.all_mk X hfa (He.glo_ok X G (cd.fact 0 rfl)) F_bag (He.glo_ok X G (cd.fact 1 rfl)) F_take (He.glo_ok X G (cd.fact 2 rfl)) F_any_words (He.glo_ok X G (cd.fact 3 rfl)) F_refused (He.glo_ok X G (cd.fact 4 rfl)) F_keeper_refused (He.glo_ok X G (cd.fact 5 rfl)) F_procedures (He.glo_ok X G (cd.fact 6 rfl)) F_plans (He.glo_ok X G (cd.fact 7 rfl)) F_kept_right (He.glo_ok X G (cd.fact 8 rfl)) F_groups_right (He.glo_ok X G (cd.fact 9 rfl)) F_isword (He.glo_ok X G (cd.fact 10 rfl)) F_isnml (He.glo_ok X G (cd.fact 11 rfl)) F_istest (He.glo_ok X G (cd.fact 12 rfl)) F_arewords (He.glo_ok X G (cd.fact 13 rfl)) F_cnames (He.glo_ok X G (cd.fact 14 rfl)) F_isrow (He.glo_ok X G (cd.fact 15 rfl)) F_crows (He.glo_ok X G (cd.fact 16 rfl)) F_ctable (He.glo_ok X G (cd.fact 17 rfl)) F_law (He.glo_ok X G (cd.fact 18 rfl)) (He.cls_ok (cd.fact 19 rfl)) (HdZ.mkr_m (cd.fact 20 rfl)) (HdZ.mkr_k (cd.fact 20 rfl)) (HdZ.meth_a (cd.fact 21 rfl)) (HdZ.meth_i (cd.fact 21 rfl)) F_rd_init (HdZ.meth_a (cd.fact 22 rfl)) (HdZ.meth_i (cd.fact 22 rfl)) F_rd_accepts (HdZ.meth_a (cd.fact 23 rfl)) (HdZ.meth_i (cd.fact 23 rfl)) F_rd_lists (HdZ.meth_a (cd.fact 24 rfl)) (HdZ.meth_i (cd.fact 24 rfl)) F_rd_define (HdZ.meth_a (cd.fact 25 rfl)) (HdZ.meth_i (cd.fact 25 rfl)) F_rd_end (HdZ.meth_a (cd.fact 26 rfl)) (HdZ.meth_i (cd.fact 26 rfl)) F_rd_else (HdZ.meth_a (cd.fact 27 rfl)) (HdZ.meth_i (cd.fact 27 rfl)) F_rd_take (HdZ.meth_a (cd.fact 28 rfl)) (HdZ.meth_i (cd.fact 28 rfl)) F_rd_simple (He.eqO_ok (cd.fact 29 rfl)) (He.eqO_ok (cd.fact 30 rfl)) (He.eqO_ok (cd.fact 31 rfl)) (He.eqO_ok (cd.fact 32 rfl)) (He.eqO_ok (cd.fact 33 rfl)) (He.eqO_ok (cd.fact 34 rfl)) (He.eqO_ok (cd.fact 35 rfl)) (He.glo_ok X G (cd.fact 36 rfl)) (He.cls_ok (cd.fact 37 rfl)) (HdZ.mkr_m (cd.fact 38 rfl)) (HdZ.mkr_k (cd.fact 38 rfl)) (HdZ.meth_a (cd.fact 39 rfl)) (HdZ.meth_i (cd.fact 39 rfl)) F_pg_init (He.eqO_ok (cd.fact 40 rfl)) (He.eqO_ok (cd.fact 41 rfl)) (He.eqO_ok (cd.fact 42 rfl)) (He.eqO_ok (cd.fact 43 rfl)) (He.glo_ok X G (cd.fact 44 rfl)) (He.cls_ok (cd.fact 45 rfl)) (HdZ.mkr_m (cd.fact 46 rfl)) (HdZ.mkr_k (cd.fact 46 rfl)) (HdZ.meth_a (cd.fact 47 rfl)) (HdZ.meth_i (cd.fact 47 rfl)) F_k_init (He.eqO_ok (cd.fact 48 rfl)) (He.eqO_ok (cd.fact 49 rfl)) (He.glo_ok X G (cd.fact 50 rfl)) (HdZ.oexB_ok (HdZ.exAt hm 0 rfl)) (of_decide_eq_true (HdZ.exAt hm 1 rfl)) (of_decide_eq_true (HdZ.exAt hm 2 rfl)) (of_decide_eq_true (HdZ.exAt hm 3 rfl)) (HdZ.exAt hm 4 rfl) (of_decide_eq_true (HdZ.exAt hm 5 rfl)) (of_decide_eq_true (HdZ.exAt hm 6 rfl)) (of_decide_eq_true (HdZ.exAt hm 7 rfl)) (of_decide_eq_true (HdZ.exAt hm 8 rfl)) (of_decide_eq_true (HdZ.exAt hm 9 rfl)) (HdZ.ini_ok (C:=(He.ga K "BadLine")) (qual:="BadLine.__init__") (st:=s_BadLine) (c.ini 0 rfl) (HdZ.exAt hm 10 rfl)) (of_decide_eq_true (HdZ.exAt hm 11 rfl)) (of_decide_eq_true (HdZ.exAt hm 12 rfl)) (of_decide_eq_true (HdZ.exAt hm 13 rfl)) (HdZ.exAt hm 14 rfl) (He.glo_ok X G (cd.fact 51 rfl)) (HdZ.oexB_ok (HdZ.exAt hm 15 rfl)) (of_decide_eq_true (HdZ.exAt hm 16 rfl)) (of_decide_eq_true (HdZ.exAt hm 17 rfl)) (of_decide_eq_true (HdZ.exAt hm 18 rfl)) (HdZ.exAt hm 19 rfl) (of_decide_eq_true (HdZ.exAt hm 20 rfl)) (of_decide_eq_true (HdZ.exAt hm 21 rfl)) (of_decide_eq_true (HdZ.exAt hm 22 rfl)) (of_decide_eq_true (HdZ.exAt hm 23 rfl)) (of_decide_eq_true (HdZ.exAt hm 24 rfl)) (HdZ.ini_ok (C:=(He.ga K "BadNames")) (qual:="BadNames.__init__") (st:=s_BadNames) (c.ini 1 rfl) (HdZ.exAt hm 25 rfl)) (of_decide_eq_true (HdZ.exAt hm 26 rfl)) (of_decide_eq_true (HdZ.exAt hm 27 rfl)) (of_decide_eq_true (HdZ.exAt hm 28 rfl)) (HdZ.exAt hm 29 rfl) (of_decide_eq_true (HdZ.exAt hm 30 rfl)) (He.free_ok X G (cd.fact 52 rfl)) (by first | rfl | decide +kernel | kernel_rfl) (He.free_ok X G (cd.fact 53 rfl)) (He.free_ok X G (cd.fact 54 rfl)) (He.free_ok X G (cd.fact 55 rfl)) (He.free_ok X G (cd.fact 56 rfl)) (He.free_ok X G (cd.fact 57 rfl)) (He.free_ok X G (cd.fact 58 rfl)) (He.free_ok X G (cd.fact 59 rfl)) (He.free_ok X G (cd.fact 60 rfl)) (He.free_ok X G (cd.fact 61 rfl)) (He.free_ok X G (cd.fact 62 rfl)) (He.free_ok X G (cd.fact 63 rfl)) (He.free_ok X G (cd.fact 64 rfl)) (He.free_ok X G (cd.fact 65 rfl)) (He.free_ok X G (cd.fact 66 rfl)) (He.free_ok X G (cd.fact 67 rfl)) (He.free_ok X G (cd.fact 68 rfl)) (He.str_ok X G (cd.fact 69 rfl)) (He.int_ok X G (cd.fact 70 rfl)) (He.glo_ok X G (cd.fact 71 rfl)) (He.tupB_ok (HdZ.exAt hm 31 rfl)) (He.glo_ok X G (cd.fact 72 rfl)) (He.tupB_ok (HdZ.exAt hm 32 rfl)) (He.glo_ok X G (cd.fact 73 rfl)) (He.tupB_ok (HdZ.exAt hm 33 rfl)) (of_decide_eq_true (HdZ.exAt hm 34 rfl)) (of_decide_eq_true (HdZ.exAt hm 35 rfl)) (He.int_ok X G (cd.fact 74 rfl)) (HdZ.etB_ok (HdZ.exAt hm 36 rfl))
end HdE
open PySem PySem.W PySem.Calls PyProof.Rows
set_option maxRecDepth 100000 in
set_option maxHeartbeats 0 in
theorem PySem.Challenge.cw_sidelists_k04_scopes_and_names_holds : PySem.Challenge.rw_sidelists_k04_scopes_and_names.Holds := by
 exact HdE.early fun w K h mg f X G hfa c=>HdE.facts X G hfa c
