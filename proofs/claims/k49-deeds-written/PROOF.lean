import PyProof.Rows.All
import Wide.All
import OpenK.AllK
import Wide.FinOn
import HandS.ForMost
import HandS.ForSpec
import HandS.Flow
import HandS.IsInst
import HandS.Style
import HandS.Deep
import HandS.Conv
import HandS.Dict
import HandS.DictTup
import HandS.ExcIs
import HandS.ExcOwn
import HandS.Flt
import HandS.List
import HandS.More
import HandS.NoneIn
import HandS.RaiseMore
import HandS.ReplaceLit
import HandS.RevRange
import HandS.SetFor
import HandS.SortKw
import HandS.Strs
import HandS.Text
import HandS.TryMany
import HandS.TryOnly
import HandS.TupAny
import HandS.TupLen
import HandS.Zip
import KE.DataMinMax
import KE.GoesEnum
import KE.GoesMore
import KE.GoesRev
import KE.GoesZip
import KE.IntTextLaws
import KE.SortData
import KE.SortKeyHeap
import PyProof.AutoSeq1
import PyProof.Conv_int_bool
import PyProof.ListRange
import PyProof.Rows.StrStrike
import PyProof.Rows.TupDisplay
import PyProof.SeqRoads2
import KE.KStateDown
import HandS.Defaults
import HandS.Head0
import HandS.Head1
import HandS.Head2
import HandS.HeadEnd
import HandS.HeadHook1
import HandS.HeadHook2
import HandS.HeadHook3
import Wide.Once
import PySem.Challenge.RW_forsworn_k49_deeds_written
set_option Elab.async false
set_option linter.all false
set_option maxRecDepth 100000
set_option maxHeartbeats 4000000
abbrev Q0:List Bool:=[true,false]
abbrev Q1:List Bool:=[false,false]
abbrev Q2:List PySem.Str:=["_law_src_here","_law_base"]
abbrev Q3:List PySem.Str:=["_law_src_here","_law_names_here"]
abbrev Q4:List PySem.Str:=["_law_src_here","_law_many"]
namespace VS
open PySem PySem.Spec
abbrev ExF:Type:=W.Frag->Bool
def obsX (fa:List He.Fa)(fn:List He.DefD)(ex:List ExF)(K:W.Frag):He.AlD:=(((fa.all λ f=>f.ok K)&&fn.all λ d=>d.ok K)&&ex.all λ e=>e K,fn.map λ d=>He.fnW K d.at_)
def SaysX (fa:List He.Fa)(fn:List He.DefD)(ex:List ExF)(K:W.Frag):Prop:=obsX fa fn ex K=He.valD fn
/-- the objects in reach of the module's names,each level once,without a look at what comes twice -/
def refsZ (g:Addr->Option Obj)(a:Addr):List Addr:=match g a with
 | some o=>He.refsD o
 | none=>[]
def ndZ (g:Addr->Option Obj)(a:Addr):Bool:=match g a with
 | some ⟨_,_,.dict _ _,_⟩=>true
 | some ⟨_,_,.cls _,_⟩=>true
 | _=>false
def as3Z (g:Addr->Option Obj)(l1 l2 l3:List Addr):List Addr:=mainGlobals::(l1++(l2++(l3++l3.flatMap (refsZ g))))
def as2Z (g:Addr->Option Obj)(l1 l2:List Addr):List Addr:=as3Z g l1 l2 ((l2.filter (ndZ g)).flatMap (refsZ g))
def as1Z (g:Addr->Option Obj)(l1:List Addr):List Addr:=as2Z g l1 (l1.flatMap (refsZ g))
def asZ (g:Addr->Option Obj):List Addr:=as1Z g (refsZ g mainGlobals)
def obsXG (fa:List He.Fa)(fn:List He.DefD)(ex:List ExF)(g:Addr->Option Obj):He.AlD:=obsX fa fn ex (He.frG g (asZ g))
theorem abA {fa:List He.Fa}{fn:List He.DefD}{ex:List ExF}{K:W.Frag}(c:SaysX fa fn ex K):He.SaysD fa fn K/\∀ (i:Nat) (e:ExF),ex[i]?=some e->e K=true:=by
 have c1:=He.ba (show(((fa.all λ f=>f.ok K)&&fn.all λ d=>d.ok K)&&ex.all λ e=>e K)=true from congrArg (λ z:He.AlD=>z.1) c)
 have c2:fn.map (λ d=>He.fnW K d.at_)=fn.map He.DefD.val:=congrArg (λ z:He.AlD=>z.2) c
 refine⟨?_,λ i e h=>List.all_eq_true.mp c1.2 e (List.mem_of_getElem? h)⟩
 show((fa.all λ f=>f.ok K)&&fn.all λ d=>d.ok K,fn.map λ d=>He.fnW K d.at_)=(true,fn.map He.DefD.val)
 rw[c1.1,c2]
def tup3X (x a b c:Str):ExF:=λ K=>match K.lookup (He.ga K x) with
 | some ⟨.type z,_,.seq its _,_⟩=>decide (z="tuple")&&(match its.toList with
  | [.str p _,.str q _,.str r _]=>decide (p=a)&&(decide (q=b)&&decide (r=c))
  | _=>false)
 | _=>false
theorem ae8 {K:W.Frag}{x a b c:Str}(h:tup3X x a b c K=true):∃ (od:Option Addr) (u0 u1 u2:Nat) (n:Nat) (sl:Array (Option Value)),K.lookup (He.ga K x)=some ⟨.type "tuple",od,.seq #[.str a u0,.str b u1,.str c u2] n,sl⟩:=by
 unfold tup3X at h
 cases q:K.lookup (He.ga K x) with
 | none=>rw[q]at h;cases h
 | some o =>
  obtain⟨oc,od,dt,osl⟩:=o
  rw[q]at h
  cases oc with
  | type z =>
   cases dt with
   | seq its n =>
    obtain⟨h1,h2⟩:=He.ba h
    have h1:z="tuple":=of_decide_eq_true h1
    obtain⟨l⟩:=its
    match l,h2 with
    | [.str p u0,.str q u1,.str r u2],h2 =>
     obtain⟨h3,h4⟩:=He.ba h2
     obtain⟨h5,h6⟩:=He.ba h4
     have h3:p=a:=of_decide_eq_true h3
     have h5:q=b:=of_decide_eq_true h5
     have h6:r=c:=of_decide_eq_true h6
     subst h1 h3 h5 h6
     exact⟨od,u0,u1,u2,n,osl,rfl⟩
   | _=>cases h
  | _=>cases dt<;>cases h
section
variable {fa fb:List He.Fa}{fn gn:List He.DefD}{ex ey:List ExF}{K:W.Frag}
theorem acn (h1:obsX fa fn ex K=He.valD fn)(h2:obsX fb gn ey K=He.valD gn):obsX (fa++fb) (fn++gn) (ex++ey) K=He.valD (fn++gn):=by
 have a1:(((fa.all λ f=>f.ok K)&&fn.all λ d=>d.ok K)&&ex.all λ e=>e K)=true:=congrArg (λ z:He.AlD=>z.1) h1
 have a2:fn.map (λ d=>He.fnW K d.at_)=fn.map He.DefD.val:=congrArg (λ z:He.AlD=>z.2) h1
 have b1:(((fb.all λ f=>f.ok K)&&gn.all λ d=>d.ok K)&&ey.all λ e=>e K)=true:=congrArg (λ z:He.AlD=>z.1) h2
 have b2:gn.map (λ d=>He.fnW K d.at_)=gn.map He.DefD.val:=congrArg (λ z:He.AlD=>z.2) h2
 simp only[Bool.and_eq_true]at a1 b1
 show((((fa++fb).all λ f=>f.ok K)&&(fn++gn).all λ d=>d.ok K)&&(ex++ey).all λ e=>e K,(fn++gn).map λ d=>He.fnW K d.at_)=(true,(fn++gn).map He.DefD.val)
 rw[List.map_append,List.map_append,a2,b2,List.all_append,List.all_append,List.all_append,a1.1.1,a1.1.2,a1.2,b1.1.1,b1.1.2,b1.2]
 rfl
theorem ae9 {E:Option W.SharedT}(h1:E.map (λ s=>obsXG fa fn ex (HandSHeadRun.getT s))=some (He.valD fn))(h2:E.map (λ s=>obsXG fb gn ey (HandSHeadRun.getT s))=some (He.valD gn)) :
  E.map (λ s=>obsXG (fa++fb) (fn++gn) (ex++ey) (HandSHeadRun.getT s))=some (He.valD (fn++gn)):=by
 cases E with
 | none=>cases h1
 | some s=>exact congrArg some (acn (Option.some.inj h1) (Option.some.inj h2))
theorem aco {α β γ δ:Type}{E:Option W.SharedT}{A:W.SharedT->α}{B:W.SharedT->β}{C:W.SharedT->γ}{D:W.SharedT->δ}{a:α}{b:β}{c:γ}{d:δ}(h1:E.map (λ s=>(A s,B s,D s))=some (a,b,d))(h3:E.map C=some c):E.map (λ s=>(A s,B s,C s,D s))=some (a,b,c,d):=by
 cases E with
 | none=>cases h3
 | some s =>
  have e1:(A s,B s,D s)=(a,b,d):=Option.some.inj h1
  have e3:=Option.some.inj h3
  obtain⟨e1,e2⟩:=Prod.mk.inj e1
  obtain⟨e2,e4⟩:=Prod.mk.inj e2
  show some (A s,B s,C s,D s)=_
  rw[e1,e2,e3,e4]
end
abbrev Tb:Type:=Str×List (Str×Str)
abbrev AlY:Type:=He.AlD×(List (Option (List (Option (Str×Int))))×Bool)
def gaOk (K:W.Frag)(x:Str):Bool:=match W.nsIn K mainGlobals x with
 | some (some (.ref _))=>true
 | _=>false
def tabsO (ts:List Tb)(K:W.Frag):List (Option (List (Option (Str×Int))))×Bool:=(ts.map λ t=>He.dicW K (He.ga K t.1),ts.all λ t=>gaOk K t.1)
def tabsV (ts:List Tb)(w:World):List (Option (List (Option (Str×Int))))×Bool:=(ts.map λ t=>some (He.keysIn w.params (t.2.map Prod.fst)),true)
def tabsG (ts:List Tb)(g:Addr->Option Obj):List (Option (List (Option (Str×Int))))×Bool:=tabsO ts (He.frG g (He.asD g 1))
def TabsIn (ts:List Tb)(w:World)(h:Heap):Prop:=∃ K:W.Frag,K.In h/\tabsO ts K=tabsV ts w
def SaysY (fa:List He.Fa)(fn:List He.DefD)(ex:List ExF)(ts:List Tb)(w:World)(h:Heap)(K:W.Frag):Prop:=SaysX fa fn ex K/\TabsIn ts w h
def obsYG (fa:List He.Fa)(fn:List He.DefD)(ex:List ExF)(ts:List Tb)(g:Addr->Option Obj):AlY:=(obsXG fa fn ex g,tabsG ts g)
def hookY (fa:List He.Fa)(fn:List He.DefD)(ex:List ExF)(ts:List Tb):W.Hook where
 α:=AlY
 obs:=λ s=>obsYG fa fn ex ts s.heap.get?
 val:=λ w=>(He.valD fn,tabsV ts w)
 says:=λ w h=>∃ K:W.Frag,K.In h/\SaysY fa fn ex ts w h K
 of:=λ _ _ e=>⟨_,He.frG_in,congrArg (λ z:AlY=>z.1) e,_,He.frG_in,congrArg (λ z:AlY=>z.2) e⟩
 keeps:=λ _ _ _ ⟨K,hK,c,K1,hK1,c1⟩ k=>⟨K,W.Frag.In.keeps hK k,c,K1,W.Frag.In.keeps hK1 k,c1⟩
theorem afa {fa:List He.Fa}{fn:List He.DefD}{ex:List ExF}{ts:List Tb}{g:Addr->Option Obj}{s:Shared}(h:∀ a,g a=s.heap.get? a):obsYG fa fn ex ts g=(hookY fa fn ex ts).obs s:=by
 have e:g=s.heap.get?:=funext h
 rw[e]<;>rfl
def tabX (x:Str)(rows:List (Str×Str)):ExF:=λ K=>rows.all λ q=>match W.nsIn K (He.ga K x) q.1 with
 | some (some (.str y _))=>decide (y=q.2)
 | _=>false
theorem aib {ts:List Tb}{w:World}{h:Heap}(c:TabsIn ts w h)(i:Nat)(t:Tb)(ht:ts[i]?=some t):∃ K:W.Frag,K.In h/\He.dicW K (He.ga K t.1)=some (He.keysIn w.params (t.2.map Prod.fst))/\gaOk K t.1=true:=by
 obtain⟨K,hK,c⟩:=c
 have c1:=congrArg (λ z:List (Option (List (Option (Str×Int))))×Bool=>z.1) c
 have c2:=congrArg (λ z:List (Option (List (Option (Str×Int))))×Bool=>z.2) c
 refine⟨K,hK,?_,List.all_eq_true.mp c2 t (List.mem_of_getElem? ht)⟩
 have e:(ts.map λ t=>He.dicW K (He.ga K t.1))[i]?=(ts.map λ t=>some (He.keysIn w.params (t.2.map Prod.fst)))[i]?:=congrArg (·[i]?) c1
 rw[List.getElem?_map,List.getElem?_map,ht]at e
 exact Option.some.inj e
theorem aic {K K1:W.Frag}{h:Heap}(X:K.In h)(X1:K1.In h){a:Addr}{x:Str}{v v1:Value}(e:W.nsIn K a x=some (some v))(e1:W.nsIn K1 a x=some (some v1)):v=v1:=by
 cases q:K.lookup a with
 | none =>
  unfold W.nsIn at e
  rw[q]at e
  cases e
 | some o =>
  cases q1:K1.lookup a with
  | none =>
   unfold W.nsIn at e1
   rw[q1]at e1
   cases e1
  | some o1 =>
   have z:=X _ _ q
   rw[X1 _ _ q1]at z
   cases z
   unfold W.nsIn at e e1
   rw[q]at e
   rw[q1]at e1
   rw[e]at e1
   cases e1
   rfl
theorem afb {K K1:W.Frag}{h:Heap}(X:K.In h)(X1:K1.In h){a:Addr}{x:Str}{u:Value}{v:List (Option (Str×Int))}(e:W.nsIn K a x=some (some u))(e1:He.dicW K1 a=some v):He.dicW K a=some v:=by
 cases q:K.lookup a with
 | none =>
  unfold W.nsIn at e
  rw[q]at e
  cases e
 | some o =>
  cases q1:K1.lookup a with
  | none =>
   unfold He.dicW at e1
   rw[q1]at e1
   cases e1
  | some o1 =>
   have z:=X _ _ q
   rw[X1 _ _ q1]at z
   cases z
   unfold He.dicW at e1 ⊢
   rw[q1]at e1
   rw[q]
   exact e1
end VS
namespace Tx
open PySem PySem.Spec PyProof.Rows L2
def topS (i:Nat):Stmt:=PySem.Challenge.pw_forsworn_k49_deeds_written.main.body.getD i (.Pass ⟨0,0,0,0⟩)
abbrev gj:Stmt:=topS 6
abbrev bj:Stmt:=topS 10
abbrev bG:Stmt:=topS 11
abbrev cX:Stmt:=topS 12
abbrev bZ:Stmt:=topS 13
abbrev bu:Stmt:=topS 14
abbrev cY:Stmt:=topS 15
abbrev gq:Stmt:=topS 17
abbrev eZ:Stmt:=topS 18
abbrev cZ:Stmt:=topS 19
abbrev fj:Stmt:=topS 20
abbrev cA:Stmt:=topS 21
abbrev dI:Stmt:=topS 22
abbrev dh:Stmt:=topS 23
abbrev cC:Stmt:=topS 24
abbrev fJ:Stmt:=topS 25
abbrev fu:Stmt:=topS 26
abbrev bf:Stmt:=topS 27
abbrev du:Stmt:=topS 28
abbrev pF:Stmt:=topS 29
def e0:He.DefD:=⟨("is_name",none),"is_name","is_name",defArgs gj,defBody gj,defScope gj,[],[]⟩
def e1:He.DefD:=⟨("shown_deed",none),"shown_deed","shown_deed",defArgs bj,defBody bj,defScope bj,[],[]⟩
def e2:He.DefD:=⟨("read_number",none),"read_number","read_number",defArgs bG,defBody bG,defScope bG,[],[]⟩
def e3:He.DefD:=⟨("read_name",none),"read_name","read_name",defArgs cX,defBody cX,defScope cX,[],[]⟩
def e4:He.DefD:=⟨("read_words",none),"read_words","read_words",defArgs bZ,defBody bZ,defScope bZ,[],[]⟩
def e5:He.DefD:=⟨("read_sides",none),"read_sides","read_sides",defArgs bu,defBody bu,defScope bu,[],[]⟩
def e6:He.DefD:=⟨("read_deed",none),"read_deed","read_deed",defArgs cY,defBody cY,defScope cY,[],[]⟩
def e7:He.DefD:=⟨("_law_src",none),"_law_src","_law_src",defArgs gq,defBody gq,defScope gq,[],[]⟩
def e8:He.DefD:=⟨("_law_next",none),"_law_next","_law_next",defArgs eZ,defBody eZ,defScope eZ,[],[]⟩
def e9:He.DefD:=⟨("_law_whole",none),"_law_whole","_law_whole",defArgs cZ,defBody cZ,defScope cZ,[],[]⟩
def e10:He.DefD:=⟨("_law_same",none),"_law_same","_law_same",defArgs fj,defBody fj,defScope fj,[],[]⟩
def e11:He.DefD:=⟨("_law_unlike",none),"_law_unlike","_law_unlike",defArgs cA,defBody cA,defScope cA,[],[]⟩
def e12:He.DefD:=⟨("_law_word",none),"_law_word","_law_word",defArgs dI,defBody dI,defScope dI,[],[]⟩
def e13:He.DefD:=⟨("_law_names",none),"_law_names","_law_names",defArgs dh,defBody dh,defScope dh,[],[]⟩
def e14:He.DefD:=⟨("_law_number",none),"_law_number","_law_number",defArgs cC,defBody cC,defScope cC,[],[]⟩
def e15:He.DefD:=⟨("_law_row",none),"_law_row","_law_row",defArgs fJ,defBody fJ,defScope fJ,[],[]⟩
def e16:He.DefD:=⟨("_law_form",none),"_law_form","_law_form",defArgs fu,defBody fu,defScope fu,[],[]⟩
def e17:He.DefD:=⟨("_law_any_deed",none),"_law_any_deed","_law_any_deed",defArgs bf,defBody bf,defScope bf,[],[]⟩
def e18:He.DefD:=⟨("_law_shown",none),"_law_shown","_law_shown",defArgs du,defBody du,defScope du,[],[]⟩
def e19:He.DefD:=⟨("law",none),"law","law",defArgs pF,defBody pF,defScope pF,[],[]⟩
def tb0:VS.Tb:=("FORMS",[("come","abb"),("rise","abb"),("die","aba"),("penance","a"),("bring","ab"),("give","baab"),("pay","aabb"),("claim","abbb"),("wergild","aabbb"),("accuse","babb")])
def tsL:List VS.Tb:=[tb0]
def fa0:List He.Fa:=[.glo "is_name",.glo "shown_deed",.glo "read_number",.glo "read_name",.glo "read_words",.glo "read_sides",.glo "read_deed",.glo "_law_src",.glo "_law_next",.glo "_law_whole",.glo "_law_same",.glo "_law_unlike",.glo "_law_word",.glo "_law_names",.glo "_law_number",.glo "_law_row",.glo "_law_form",.glo "_law_any_deed",.glo "_law_shown",.glo "law",.free "len",.free "str",.free "int",.free "zip",.free "tuple",.free "list",.free "isinstance",.free "bool",.free "range",.str "LETTERS" "abcdefghijklmnopqrstuvwxyz"]
def fa1:List He.Fa:=[.str "FIGURES" "0123456789",.glo "CASES",.glo "FORMS"]
def fn0:List He.DefD:=[e0,e1,e2,e3,e4,e5,e6,e7,e8,e9,e10,e11,e12,e13,e14,e15,e16,e17,e18,e19]
def nm0:List PySem.Str:=["CASES","MootError","NoDeed","LETTERS","is_name","FIGURES","FORMS","shown_deed","read_number","read_name","read_words","read_sides","read_deed","_law_src","_law_next","_law_whole","_law_same","_law_unlike","_law_word","_law_names","_law_number","_law_row","_law_form","_law_any_deed","_law_shown"]
def akV:List He.Fa:=fa0
def afc:List He.DefD:=fn0
def akW:List VS.ExF:=[VS.tup3X "CASES" "claim" "wergild" "accuse"]
def akX:List He.Fa:=fa1
def afd:List He.DefD:=[]
def akY:List VS.ExF:=[VS.tabX tb0.1 tb0.2]
def faL:List He.Fa:=(akV++akX)
def fnL:List He.DefD:=(afc++afd)
def exL:List VS.ExF:=(akW++akY)
def nmL:List PySem.Str:=nm0
abbrev rwL:W.OpenRow:=W.OpenLaw.row PySem.Challenge.rw_forsworn_k49_deeds_written
abbrev hkL:W.Hook:=VS.hookY faL fnL exL tsL
def obL (s:W.SharedT):VS.AlY:=VS.obsYG faL fnL exL tsL (HandSHeadRun.getT s)
theorem akZ (z:W.SharedT):obL z=hkL.obs z.abs:=VS.afa (HandSHeadRun.getT_eq z)
section
open PySem PySem.W PySem.Calls PyProof.Rows HandSHeadRun
theorem runAF (w:World)(os:OsState):(endF (stepQ (denQ tabQ) rwL.prog (w.withFollow "special-get-raises" false)) 16000 rwL.prog (w.withFollow "special-get-raises" false) os).map (λ s=>(looksF rwL.prog (boot_heap (w.withFollow "special-get-raises" false).params) s.abs,seenQ (W.view rwL.prog [29]) nmL (importedModules rwL.prog.main.body) (λ s=>xlAt (W.view rwL.prog [29]) [] s&&recOk rwL.toRowW.records s) s.abs,VS.tabsG tsL (getT s)))=some (true,openGood (W.view rwL.prog [29]) nmL,VS.tabsV tsL (w.withFollow "special-get-raises" false)):=by kernel_rfl
theorem runAT (w:World)(os:OsState):(endF (stepQ (denQ tabQ) rwL.prog (w.withFollow "special-get-raises" true)) 16000 rwL.prog (w.withFollow "special-get-raises" true) os).map (λ s=>(looksF rwL.prog (boot_heap (w.withFollow "special-get-raises" true).params) s.abs,seenQ (W.view rwL.prog [29]) nmL (importedModules rwL.prog.main.body) (λ s=>xlAt (W.view rwL.prog [29]) [] s&&recOk rwL.toRowW.records s) s.abs,VS.tabsG tsL (getT s)))=some (true,openGood (W.view rwL.prog [29]) nmL,VS.tabsV tsL (w.withFollow "special-get-raises" true)):=by kernel_rfl
theorem runA (w:World)(os:OsState):(endF (stepQ (denQ tabQ) rwL.prog w) 16000 rwL.prog w os).map (λ s=>(looksF rwL.prog (boot_heap w.params) s.abs,seenQ (W.view rwL.prog [29]) nmL (importedModules rwL.prog.main.body) (λ s=>xlAt (W.view rwL.prog [29]) [] s&&recOk rwL.toRowW.records s) s.abs,VS.tabsG tsL (getT s)))=some (true,openGood (W.view rwL.prog [29]) nmL,VS.tabsV tsL w):=W.byRow2 "special-get-raises" (P:=λ w=>(endF (stepQ (denQ tabQ) rwL.prog w) 16000 rwL.prog w os).map (λ s=>(looksF rwL.prog (boot_heap w.params) s.abs,seenQ (W.view rwL.prog [29]) nmL (importedModules rwL.prog.main.body) (λ s=>xlAt (W.view rwL.prog [29]) [] s&&recOk rwL.toRowW.records s) s.abs,VS.tabsG tsL (getT s)))=some (true,openGood (W.view rwL.prog [29]) nmL,VS.tabsV tsL w)) (λ w=>runAF w os) (λ w=>runAT w os) w
theorem runC0F (w:World)(os:OsState):(endF (stepQ (denQ tabQ) rwL.prog (w.withFollow "special-get-raises" false)) 16000 rwL.prog (w.withFollow "special-get-raises" false) os).map (λ s=>VS.obsXG akV afc akW (getT s))=some (He.valD afc):=by kernel_rfl
theorem runC0T (w:World)(os:OsState):(endF (stepQ (denQ tabQ) rwL.prog (w.withFollow "special-get-raises" true)) 16000 rwL.prog (w.withFollow "special-get-raises" true) os).map (λ s=>VS.obsXG akV afc akW (getT s))=some (He.valD afc):=by kernel_rfl
theorem ank (w:World)(os:OsState):(endF (stepQ (denQ tabQ) rwL.prog w) 16000 rwL.prog w os).map (λ s=>VS.obsXG akV afc akW (getT s))=some (He.valD afc):=W.byRow2 "special-get-raises" (P:=λ w=>(endF (stepQ (denQ tabQ) rwL.prog w) 16000 rwL.prog w os).map (λ s=>VS.obsXG akV afc akW (getT s))=some (He.valD afc)) (λ w=>runC0F w os) (λ w=>runC0T w os) w
theorem runC1F (w:World)(os:OsState):(endF (stepQ (denQ tabQ) rwL.prog (w.withFollow "special-get-raises" false)) 16000 rwL.prog (w.withFollow "special-get-raises" false) os).map (λ s=>VS.obsXG akX afd akY (getT s))=some (He.valD afd):=by kernel_rfl
theorem runC1T (w:World)(os:OsState):(endF (stepQ (denQ tabQ) rwL.prog (w.withFollow "special-get-raises" true)) 16000 rwL.prog (w.withFollow "special-get-raises" true) os).map (λ s=>VS.obsXG akX afd akY (getT s))=some (He.valD afd):=by kernel_rfl
theorem anl (w:World)(os:OsState):(endF (stepQ (denQ tabQ) rwL.prog w) 16000 rwL.prog w os).map (λ s=>VS.obsXG akX afd akY (getT s))=some (He.valD afd):=W.byRow2 "special-get-raises" (P:=λ w=>(endF (stepQ (denQ tabQ) rwL.prog w) 16000 rwL.prog w os).map (λ s=>VS.obsXG akX afd akY (getT s))=some (He.valD afd)) (λ w=>runC1F w os) (λ w=>runC1T w os) w
end
theorem runL (w:World):HandSHeadRun.RunEq rwL (W.view rwL.prog [29]) hkL obL 16000 nmL w:=λ os =>
 VS.aco (runA w os) (VS.ae9 (ank w os) (anl w os))
end Tx
namespace VS
open PySem PySem.Spec PyProof.Rows L2
abbrev D:=PyData
abbrev Path:=List Nat
inductive S where
 | d (d:D)
 | ol (ds:List D)
 | odK (kvs:List (Key×D))
 | odT (kvs:List (List Key×D))
 | ob (c:Nat) (fs:List (Str×S))
 | scr (ns:List Int)
 | os (ss:List S)
 | ot (ss:List S)
 | b (d:D)
 | bl (ds:List D)
abbrev LS:=List (Option S)
inductive R (α:Type) where
 | ok (a:α) (L:LS)
 | err (c:Nat) (L:LS)
 | stuck
def R.bind {α β:Type}(r:R α)(k:α->LS->R β):R β :=
 match r with
 | .ok a L=>k a L
 | .err c L=>.err c L
 | .stuck=>.stuck
theorem R.bind_ok {α β:Type}(a:α)(L:LS)(k:α->LS->R β):(R.ok a L).bind k=k a L:=rfl
mutual
inductive Dq (K:W.Frag)(F:Hp):V->D->Prop
 | non:Dq K F .non .none
 | bl (b:Bool):Dq K F (.bl b) (.bool b)
 | int (i:Int):Dq K F (.int i) (.int i)
 | str (x:Str):Dq K F (.str x) (.str x)
 | lst {a:Addr} {xs:List V} {ds:List D}:F a=some (.lst xs)->DqA K F xs ds->Dq K F (.ref a) (.list ds)
 | tup {a:Addr} {xs:List V} {ds:List D}:F a=some (.tup xs)->DqA K F xs ds->Dq K F (.ref a) (.tuple ds)
inductive DqA (K:W.Frag)(F:Hp):List V->List D->Prop
 | nil:DqA K F [] []
 | cons {v:V} {vs:List V} {d:D} {ds:List D}:Dq K F v d->DqA K F vs ds->DqA K F (v::vs) (d::ds)
end
section
variable {K:PySem.W.Frag}{F F' H H':Hp}
theorem sqt_same {a:Addr}{xs:List V}(e:Same H H')(h:H a=some (.tup xs)):SqT K H' a xs:=.of (e _ _ h)
theorem sql_same {a:Addr}{xs:List V}(e:Same H H')(h:SqL K H a xs):SqL K H' a xs:=e.seq h
mutual
theorem Dq.mono (e:Same F F'):∀ (d:D) (v:V),Dq K F v d->Dq K F' v d
 | .none,_,h=>by cases h;exact .non
 | .bool _,_,h=>by cases h;exact .bl _
 | .int _,_,h=>by cases h;exact .int _
 | .str _,_,h=>by cases h;exact .str _
 | .list ds,_,h=>by
  cases h with
  | lst a b=>exact .lst (e _ _ a) (DqA.mono e ds _ b)
 | .tuple ds,_,h=>by
  cases h with
  | tup a b=>exact .tup (e _ _ a) (DqA.mono e ds _ b)
 | .dict _,_,h=>by cases h
theorem DqA.mono (e:Same F F'):∀ (ds:List D) (vs:List V),DqA K F vs ds->DqA K F' vs ds
 | [],_,h=>by cases h;exact .nil
 | d::ds,_,h=>by
  cases h with
  | cons a b=>exact .cons (Dq.mono e d _ a) (DqA.mono e ds _ b)
end
mutual
theorem Dq.dp:∀ (d:D) (v:V),Dq K F v d->Dp K F v d
 | .none,_,h=>by cases h;exact .non
 | .bool _,_,h=>by cases h;exact .bl _
 | .int _,_,h=>by cases h;exact .int _
 | .str _,_,h=>by cases h;exact .str _
 | .list ds,_,h=>by
  cases h with
  | lst a b=>exact .lst (.inl (.inl a)) (DqA.dp ds _ b)
 | .tuple ds,_,h=>by
  cases h with
  | tup a b=>exact .tup (.of a) (DqA.dp ds _ b)
 | .dict _,_,h=>by cases h
theorem DqA.dp:∀ (ds:List D) (vs:List V),DqA K F vs ds->DpAll K F vs ds
 | [],_,h=>by cases h;exact .nil
 | d::ds,_,h=>by
  cases h with
  | cons a b=>exact .cons (Dq.dp d _ a) (DqA.dp ds _ b)
end
theorem Dq.up {v:V}{d:D}(e:Same F F')(h:Dq K F v d):Dq K F' v d:=Dq.mono e d v h
theorem DqA.up {v:List V}{d:List D}(e:Same F F')(h:DqA K F v d):DqA K F' v d:=DqA.mono e d v h
theorem DqA.len:∀ {vs:List V} {ds:List D},DqA K F vs ds->vs.length=ds.length
 | _,_,.nil=>rfl
 | _,_,.cons _ t=>by rw[List.length_cons,List.length_cons,t.len]
theorem DqA.append:∀ {xs ys:List V} {ds es:List D},DqA K F xs ds->DqA K F ys es->DqA K F (xs++ys) (ds++es)
 | _,_,_,_,.nil,s=>s
 | _,_,_,_,.cons r t,s=>.cons r (t.append s)
theorem DqA.one {v:V}{d:D}(h:Dq K F v d):DqA K F [v] [d]:=.cons h .nil
theorem DqA.get:∀ {vs:List V} {ds:List D} {i:Nat} {d:D},DqA K F vs ds->ds[i]?=some d->∃ v,vs[i]?=some v/\Dq K F v d
 | _,_,_,_,.nil,e=>by simp at e
 | _,_,0,_,.cons r _,e=>by simp at e;subst e;exact⟨_,rfl,r⟩
 | _,_,i+1,d,.cons _ t,e=>by
  obtain⟨u,h1,h2⟩:=DqA.get (i:=i) (d:=d) t (by simpa using e);exact⟨u,by simpa using h1,h2⟩
theorem DqA.set {v:V}{d:D}(r:Dq K F v d):∀ {vs:List V} {ds:List D} (i:Nat),DqA K F vs ds->DqA K F (vs.set i v) (ds.set i d)
 | _,_,_,.nil=>.nil
 | _,_,0,.cons _ t=>.cons r t
 | _,_,i+1,.cons q t=>.cons q (DqA.set r i t)
theorem DqA.take:∀ {vs:List V} {ds:List D} (n:Nat),DqA K F vs ds->DqA K F (vs.take n) (ds.take n)
 | _,_,0,_=>.nil
 | _,_,_+1,.nil=>.nil
 | _,_,n+1,.cons r t=>.cons r (DqA.take n t)
theorem DqA.drop:∀ {vs:List V} {ds:List D} (n:Nat),DqA K F vs ds->DqA K F (vs.drop n) (ds.drop n)
 | _,_,0,r=>r
 | _,_,_+1,.nil=>.nil
 | _,_,n+1,.cons _ t=>DqA.drop n t
theorem DqA.erase:∀ {vs:List V} {ds:List D} (n:Nat),DqA K F vs ds->DqA K F (vs.eraseIdx n) (ds.eraseIdx n)
 | _,_,_,.nil=>.nil
 | _,_,0,.cons _ t=>t
 | _,_,n+1,.cons r t=>.cons r (DqA.erase n t)
theorem DqA.replicate {v:V}{d:D}(r:Dq K F v d):∀ n:Nat,DqA K F (List.replicate n v) (List.replicate n d)
 | 0=>.nil
 | n+1=>.cons r (DqA.replicate r n)
theorem DqA.ints:∀ ns:List Int,DqA K F (ns.map V.int) (ns.map PyData.int)
 | []=>.nil
 | n::ns=>.cons (.int n) (DqA.ints ns)
def DqK {κ:Type}(K:PySem.W.Frag)(F:Hp):List (κ×V)->List (κ×D)->Prop:=Paired λ p q=>p.1=q.1/\Dq K F p.2 q.2
theorem DqK.up {κ:Type}{l:List (κ×V)}{m:List (κ×D)}(e:Same F F')(h:DqK K F l m):DqK K F' l m:=Paired.mapP h λ _ _ z=>⟨z.1,z.2.up e⟩
end
mutual
inductive RS (K:PySem.W.Frag)(ca:Nat->Addr)(F H:Hp)(ow:Addr->Option Path):Path->S->V->Prop
 | d {p:Path} {d:D} {v:V}:Dq K F v d->RS K ca F H ow p (.d d) v
 | ol {p:Path} {l:Addr} {vs:List V} {ds:List D}:H l=some (.lst vs)->ow l=some p->DqA K F vs ds->RS K ca F H ow p (.ol ds) (.ref l)
 | odK {p:Path} {l:Addr} {vs:List (Key×V)} {ds:List (Key×D)}:H l=some (.dK vs)->ow l=some p->DqK K F vs ds->RS K ca F H ow p (.odK ds) (.ref l)
 | odT {p:Path} {l:Addr} {vs:List (List Key×V)} {ds:List (List Key×D)}:H l=some (.dT vs)->ow l=some p->DqK K F vs ds->RS K ca F H ow p (.odT ds) (.ref l)
 | ob {p:Path} {a dx:Addr} {c:Nat} {vs:List (Str×V)} {fs:List (Str×S)}:H a=some (.ins (ca c) dx vs)->ow a=some p->RF K ca F H ow p 0 fs vs->RS K ca F H ow p (.ob c fs) (.ref a)
 | scr {p:Path} {a:Addr} {ns:List Int}:SqL K F a (ns.map V.int)->RS K ca F H ow p (.scr ns) (.ref a)
 | os {p:Path} {l:Addr} {vs:List V} {ss:List S}:H l=some (.lst vs)->ow l=some p->RI K ca F H ow p 0 ss vs->RS K ca F H ow p (.os ss) (.ref l)
 | ot {p:Path} {l:Addr} {vs:List V} {ss:List S}:F l=some (.tup vs)->RI K ca F H ow p 0 ss vs->RS K ca F H ow p (.ot ss) (.ref l)
inductive RI (K:PySem.W.Frag)(ca:Nat->Addr)(F H:Hp)(ow:Addr->Option Path):Path->Nat->List S->List V->Prop
 | nil {p:Path} {i:Nat}:RI K ca F H ow p i [] []
 | cons {p:Path} {i:Nat} {s:S} {v:V} {ss:List S} {vs:List V}:RS K ca F H ow (p++[i]) s v->RI K ca F H ow p (i+1) ss vs->RI K ca F H ow p i (s::ss) (v::vs)
inductive RF (K:PySem.W.Frag)(ca:Nat->Addr)(F H:Hp)(ow:Addr->Option Path):Path->Nat->List (Str×S)->List (Str×V)->Prop
 | nil {p:Path} {i:Nat}:RF K ca F H ow p i [] []
 | cons {p:Path} {i:Nat} {x:Str} {s:S} {v:V} {fs:List (Str×S)} {vs:List (Str×V)}:RS K ca F H ow (p++[i]) s v->RF K ca F H ow p (i+1) fs vs->RF K ca F H ow p i ((x,s)::fs) ((x,v)::vs)
end
section
variable {K:PySem.W.Frag}{ca:Nat->Addr}{F F' H H':Hp}{ow ow':Addr->Option Path}
def Keeps (H H':Hp)(ow ow':Addr->Option Path)(p p':Path):Prop:=∀ a q,ow a=some (p++q)->H' a=H a/\ow' a=some (p'++q)
theorem Keeps.sub {p p':Path}(k:Keeps H H' ow ow' p p')(r:Path):Keeps H H' ow ow' (p++r) (p'++r):=λ a q h=>by
 rw[List.append_assoc]at h ⊢;exact k a _ h
mutual
theorem RS.move (e:Same F F'):∀ (s:S) (p p':Path) (v:V),Keeps H H' ow ow' p p'->RS K ca F H ow p s v->RS K ca F' H' ow' p' s v
 | .d _,p,p',v,k,h=>by
  cases h with
  | d a=>exact .d (a.up e)
 | .ol _,p,p',v,k,h=>by
  cases h with
  | ol a b c =>
   obtain⟨x,y⟩:=k _ [] (by rw[List.append_nil];exact b);rw[List.append_nil]at y;exact .ol (x.trans a) y (c.up e)
 | .odK _,p,p',v,k,h=>by
  cases h with
  | odK a b c =>
   obtain⟨x,y⟩:=k _ [] (by rw[List.append_nil];exact b);rw[List.append_nil]at y;exact .odK (x.trans a) y (c.up e)
 | .odT _,p,p',v,k,h=>by
  cases h with
  | odT a b c =>
   obtain⟨x,y⟩:=k _ [] (by rw[List.append_nil];exact b);rw[List.append_nil]at y;exact .odT (x.trans a) y (c.up e)
 | .ob _ fs,p,p',v,k,h=>by
  cases h with
  | ob a b c =>
   obtain⟨x,y⟩:=k _ [] (by rw[List.append_nil];exact b);rw[List.append_nil]at y;exact .ob (x.trans a) y (RF.move e fs _ _ _ _ k c)
 | .scr _,p,p',v,k,h=>by
  cases h with
  | scr a=>exact .scr (sql_same e a)
 | .os ss,p,p',v,k,h=>by
  cases h with
  | os a b c =>
   obtain⟨x,y⟩:=k _ [] (by rw[List.append_nil];exact b);rw[List.append_nil]at y;exact .os (x.trans a) y (RI.move e ss _ _ _ _ k c)
 | .ot ss,p,p',v,k,h=>by
  cases h with
  | ot a c=>exact .ot (e _ _ a) (RI.move e ss _ _ _ _ k c)
 | .b _,p,p',v,k,h=>by cases h
 | .bl _,p,p',v,k,h=>by cases h
theorem RI.move (e:Same F F'):∀ (ss:List S) (p p':Path) (i:Nat) (vs:List V),Keeps H H' ow ow' p p'->RI K ca F H ow p i ss vs->RI K ca F' H' ow' p' i ss vs
 | [],p,p',i,vs,k,h=>by cases h;exact .nil
 | s::ss,p,p',i,vs,k,h=>by
  cases h with
  | cons a b=>exact .cons (RS.move e s _ _ _ (k.sub [i]) a) (RI.move e ss _ _ _ _ k b)
theorem RF.move (e:Same F F'):∀ (fs:List (Str×S)) (p p':Path) (i:Nat) (vs:List (Str×V)),Keeps H H' ow ow' p p'->RF K ca F H ow p i fs vs->RF K ca F' H' ow' p' i fs vs
 | [],p,p',i,vs,k,h=>by cases h;exact .nil
 | (x,s)::fs,p,p',i,vs,k,h=>by
  cases h with
  | cons a b=>exact .cons (RS.move e s _ _ _ (k.sub [i]) a) (RF.move e fs _ _ _ _ k b)
end
theorem RS.go {s:S}{p p':Path}{v:V}(h:RS K ca F H ow p s v)(e:Same F F')(k:Keeps H H' ow ow' p p'):RS K ca F' H' ow' p' s v:=RS.move e s p p' v k h
def BF (B F:Hp):Hp:=λ a=>match B a with
 | some o=>some o
 | none=>F a
theorem BF.up {B:Hp}(e:Same F F'):Same (BF B F) (BF B F'):=λ a o h=>by
 unfold BF at h ⊢
 cases z:B a with
 | some u=>rw[z]at h;exact h
 | none=>rw[z]at h;exact e a o h
theorem BF.inF {B:Hp}(eF:Same F H)(eB:Same B H):Same F (BF B F):=λ a o h=>by
 unfold BF
 cases z:B a with
 | some u =>
  have h1:=eF a o h
  rw[eB a u z]at h1;exact h1
 | none=>exact h
theorem BF.inH {B:Hp}(eF:Same F H)(eB:Same B H):Same (BF B F) H:=λ a o h=>by
 unfold BF at h
 cases z:B a with
 | some u=>rw[z]at h;rw[←Option.some.inj h];exact eB a u z
 | none=>rw[z]at h;exact eF a o h
@[reducible] def RT (K:PySem.W.Frag)(ca:Nat->Addr)(B F H:Hp)(ow:Addr->Option Path)(p:Path)(s:S)(v:V):Prop:=match s with
 | .b d=>Dq K (BF B F) v d
 | .bl ds=>∃ l vs,v=.ref l/\BF B F l=some (.lst vs)/\DqA K F vs ds
 | s=>RS K ca F H ow p s v
theorem RT.go {B:Hp}{s:S}{p p':Path}{v:V}(h:RT K ca B F H ow p s v)(e:Same F F')(k:Keeps H H' ow ow' p p'):RT K ca B F' H' ow' p' s v:=by
 cases s with
 | b d=>exact Dq.up (BF.up e) h
 | bl ds =>
  obtain⟨l,vs,h1,h2,h3⟩:=h;exact⟨l,vs,h1,BF.up e l _ h2,h3.up e⟩
 | d d=>exact RS.go h e k
 | ol d=>exact RS.go h e k
 | odK d=>exact RS.go h e k
 | odT d=>exact RS.go h e k
 | ob c d=>exact RS.go h e k
 | scr d=>exact RS.go h e k
 | os d=>exact RS.go h e k
 | ot d=>exact RS.go h e k
theorem RT.of {B:Hp}{s:S}{p:Path}{v:V}(h:RS K ca F H ow p s v):RT K ca B F H ow p s v:=by
 cases h with
 | d a=>exact .d a
 | ol a b c=>exact .ol a b c
 | odK a b c=>exact .odK a b c
 | odT a b c=>exact .odT a b c
 | ob a b c=>exact .ob a b c
 | scr a=>exact .scr a
 | os a b c=>exact .os a b c
 | ot a c=>exact .ot a c
def S.own:S->Bool
 | .b _=>false
 | .bl _=>false
 | _=>true
def kT (o:HO):Prop:=∃ k:List Key,o=.tup (k.map kV)
def NT (x:Option HO):Prop:=x≠none/\∀ o,x=some o->¬ kT o
theorem NT.of {o:HO}(h:¬ kT o):NT (some o):=⟨λ z=>(by cases z),λ u e=>by cases e;exact h⟩
theorem kT_lst {vs:List V}:¬ kT (.lst vs):=λ⟨_,h⟩=>by cases h
theorem kT_dK {vs:List (Key×V)}:¬ kT (.dK vs):=λ⟨_,h⟩=>by cases h
theorem kT_dT {vs:List (List Key×V)}:¬ kT (.dT vs):=λ⟨_,h⟩=>by cases h
theorem kT_ins {a b:Addr}{vs:List (Str×V)}:¬ kT (.ins a b vs):=λ⟨_,h⟩=>by cases h
structure Rl (K:PySem.W.Frag)(ca:Nat->Addr)(B:Hp)(pn:List (Option V))(G F:Hp)(ow:Addr->Option Path)(σ:L2.St)(H:Hp)(L:LS):Prop where
 exF:Same F H
 exG:Same G H
 dF:∀ a p,ow a=some p->F a=none/\G a=none/\NT (H a)
 dG:∀ a o,F a=some o->G a=none∨kT o
 len:L.length=σ.length
 sl:∀ (i:Nat) (s:S),L[i]?=some (some s)->∃ v,σ[i]?=some (some v)/\RT K ca B F H ow [i+1] s v
 pin:∀ (i:Nat) (v:V),pn[i]?=some (some v)->σ[i]?=some (some v)
 exB:Same B H
 dB:∀ a p,ow a=some p->B a=none
end
structure Ct where
 X:Cx
 W:WX
 ca:Nat->Addr
 pb:List Bool
 v0:List V
 B:Hp
def pinOf:List Bool->List V->List (Option V)
 | b::bs,v::vs=>(if b then some v else none)::pinOf bs vs
 | _,_=>[]
theorem jZ:∀ {bs:List Bool} {vs:List V} {i:Nat} {v:V},(pinOf bs vs)[i]?=some (some v)->bs[i]?=some true/\vs[i]?=some v
 | b::bs,u::vs,0,v,h=>by
  have h':(if b then some u else none)=some v:=Option.some.inj h
  cases b with
  | true=>exact⟨rfl,by rw[if_pos rfl]at h';cases h';rfl⟩
  | false=>cases h'
 | b::bs,u::vs,i+1,v,h=>jZ (bs:=bs) (vs:=vs) (i:=i) h
 | [],_,_,_,h=>by cases h
 | _::_,[],_,_,h=>by cases h
theorem v4:∀ {bs:List Bool} {vs:List V} {i:Nat} {v:V},bs[i]?=some true->vs[i]?=some v->(pinOf bs vs)[i]?=some (some v)
 | b::bs,u::vs,0,v,h,h2=>by
  have e1:b=true:=Option.some.inj h
  have e2:u=v:=Option.some.inj h2
  subst e1 e2
  rfl
 | b::bs,u::vs,i+1,v,h,h2=>v4 (bs:=bs) (vs:=vs) (i:=i) h h2
 | [],_,_,_,h,_=>by cases h
 | _::_,[],_,_,_,h=>by cases h
abbrev Ct.Rl (c:Ct)(G F:Hp)(ow:Addr->Option Path)(σ:L2.St)(H:Hp)(L:LS):Prop:=VS.Rl c.X.K c.ca c.B (pinOf c.pb c.v0) G F ow σ H L
def Post (c:Ct)(G:Hp)(n:Bool)(F H:Hp)(σ:L2.St){α β:Type}(r:R α)(B:Hp->Hp->(Addr->Option Path)->α->β->Prop)(t:(β->Hp->Prop)->Prop):Prop :=
 match r with
 | .ok a L=>∀ Q:β->Hp->Prop,(∀ b H' F' ow',Same F F'->(n=true->Same H H')->c.Rl G F' ow' σ H' L->B F' H' ow' a b->Q b H')->t Q
 | .err e L=>(∀ H' F' ow',Same F F'->c.Rl G F' ow' σ H' L->c.W (.ref (c.ca e)) none σ H')->∀ Q:β->Hp->Prop,t Q
 | .stuck=>True
section
variable {c:Ct}{G F H:Hp}{ow:Addr->Option Path}{σ:L2.St}{L:LS}{n n1 n2:Bool}{α β γ δ:Type}
theorem and_of {a b:Bool}(h:(a&&b)=true):a=true/\b=true:=by
 cases a<;>cases b<;>first | exact⟨rfl,rfl⟩ | cases h
theorem Post.bind {r:R α}{k:α->LS->R γ}{B1:Hp->Hp->(Addr->Option Path)->α->β->Prop}{B2:Hp->Hp->(Addr->Option Path)->γ->δ->Prop}{t1:(β->Hp->Prop)->Prop}{t2:β->Hp->(δ->Hp->Prop)->Prop}
  (h1:Post c G n1 F H σ r B1 t1)
  (h2:∀ a L1 b H1 F1 ow1,r=.ok a L1->Same F F1->(n1=true->Same H H1)->c.Rl G F1 ow1 σ H1 L1->B1 F1 H1 ow1 a b->Post c G n2 F1 H1 σ (k a L1) B2 (t2 b H1)) :
  Post c G (n1&&n2) F H σ (r.bind k) B2 (λ Q=>t1 λ b H1=>t2 b H1 Q):=by
 cases r with
 | stuck=>trivial
 | err e L1=>exact λ hw Q=>h1 hw _
 | ok a L1 =>
  rw[R.bind_ok]
  cases hk:k a L1 with
  | stuck=>trivial
  | ok z L2 =>
   intro Q hq;refine h1 _ λ b H1 F1 ow1 e1 s1 R1 q1=>?_
   have h:=h2 a L1 b H1 F1 ow1 rfl e1 s1 R1 q1
   rw[hk]at h;exact h Q λ b' H2 F2 ow2 e2 s2 R2 q2=>hq b' H2 F2 ow2 (e1.trans e2) (λ hn=>(s1 (and_of hn).1).trans (s2 (and_of hn).2)) R2 q2
  | err e L2 =>
   intro hw Q;refine h1 _ λ b H1 F1 ow1 e1 s1 R1 q1=>?_
   have h:=h2 a L1 b H1 F1 ow1 rfl e1 s1 R1 q1
   rw[hk]at h;exact h (λ H2 F2 ow2 e2 R2=>hw H2 F2 ow2 (e1.trans e2) R2) Q
theorem Post.val {a:α}{b:β}{B:Hp->Hp->(Addr->Option Path)->α->β->Prop}(Rr:c.Rl G F ow σ H L)(h:B F H ow a b):Post c G n F H σ (.ok a L) B (λ Q=>Q b H) :=
 λ _ q=>q b H F ow (Same.refl F) (λ _=>Same.refl H) Rr h
theorem Post.imp {r:R α}{B:Hp->Hp->(Addr->Option Path)->α->β->Prop}{t u:(β->Hp->Prop)->Prop}(h:Post c G n F H σ r B t)(k:∀ Q,t Q->u Q):Post c G n F H σ r B u:=by
 cases r with
 | stuck=>trivial
 | ok a L1=>exact λ Q q=>k Q (h Q q)
 | err e L1=>exact λ hw Q=>k Q (h hw Q)
theorem Post.low {r:R α}{B:Hp->Hp->(Addr->Option Path)->α->β->Prop}{t:(β->Hp->Prop)->Prop}(h:Post c G true F H σ r B t):Post c G n F H σ r B t:=by
 cases r with
 | stuck=>trivial
 | ok a L1=>exact λ Q q=>h Q λ b H1 F1 ow1 e1 s1 R1 q1=>q b H1 F1 ow1 e1 (λ _=>s1 rfl) R1 q1
 | err e L1=>exact h
end
def Jdg (c:Ct)(n:Bool){α β:Type}(g:LS->R α)(B:PySem.W.Frag->Hp->Hp->(Addr->Option Path)->α->β->Prop)(t:L2.St->Hp->(β->Hp->Prop)->Prop):Prop :=
 ∀ G F ow σ H L,c.Rl G F ow σ H L->Post c G n F H σ (g L) (B c.X.K) (t σ H)
def BD:PySem.W.Frag->Hp->Hp->(Addr->Option Path)->D->V->Prop:=λ K F _ _ d v=>Dq K F v d
def BA:PySem.W.Frag->Hp->Hp->(Addr->Option Path)->List D->List V->Prop:=λ K F _ _ d v=>DqA K F v d
def BE (ca:Nat->Addr):PySem.W.Frag->Hp->Hp->(Addr->Option Path)->S->V->Prop:=λ K F H ow s v=>RS K ca F H ow [0] s v
def BB:PySem.W.Frag->Hp->Hp->(Addr->Option Path)->Bool->Bool->Prop:=λ _ _ _ _ a b=>b=a
def BV:PySem.W.Frag->Hp->Hp->(Addr->Option Path)->D->V->Prop:=λ K F H _ d v=>Dq K F v d∨∃ l vs ds,v=.ref l/\d=.list ds/\SqL K H l vs/\DqA K F vs ds
def JD (c:Ct)(n:Bool)(e:Expr)(g:LS->R D):Prop:=∃ t,PE c.X e t/\Jdg c n g BD t
def JE (c:Ct)(n:Bool)(e:Expr)(g:LS->R S):Prop:=∃ t,PE c.X e t/\Jdg c n g (BE c.ca) t
def JV (c:Ct)(n:Bool)(e:Expr)(g:LS->R D):Prop:=∃ t,PE c.X e t/\Jdg c n g BV t
def JT (c:Ct)(n:Bool)(e:Expr)(g:LS->R Bool):Prop:=∃ t,PT c.X e t/\Jdg c n g BB t
def JW (c:Ct)(n:Bool)(e:Expr)(g:LS->R Bool):Prop:=∃ t,PW c.X e t/\Jdg c n g BB t
def JA (c:Ct)(n:Bool)(es:List Expr)(g:LS->R (List D)):Prop:=∃ t,PA c.X es t/\Jdg c n g BA t
section
variable {K:PySem.W.Frag}{ca:Nat->Addr}{bh:Hp}{pn:List (Option V)}{G F H:Hp}{ow:Addr->Option Path}{σ:L2.St}{L:LS}
def offAt (ow:Addr->Option Path)(l:Addr):Addr->Option Path:=λ a=>if a=l then none else ow a
theorem uZ (ow:Addr->Option Path)(l:Addr):offAt ow l l=none:=if_pos rfl
theorem v5 {ow:Addr->Option Path}{l a:Addr}(h:a≠l):offAt ow l a=ow a:=if_neg h
theorem dw {l:Addr}{o:HO}(h:F l=none):Same F (upd F l o):=λ b u e=>by
 rw[upd_ne (ne_of_none e h)];exact e
theorem gY {α:Type}{l:List α}{i j:Nat}{a b:α}(h:(l.set i a)[j]?=some b):(i=j/\a=b)∨(i≠j/\l[j]?=some b):=by
 by_cases e:i=j
 ·subst e
  rw[List.getElem?_set]at h
  by_cases hl:i < l.length
  ·simp[hl]at h
   exact .inl ⟨rfl,h⟩
  ·simp[hl]at h
 ·rw[List.getElem?_set_ne e]at h;exact .inr ⟨e,h⟩
theorem acp {l:Addr}{p:Path}(h:∀ q,ow l≠some (p++q)):Keeps H H ow (offAt ow l) p p:=λ a q e=>by
 have ha:a≠l:=λ z=>by
  subst z
  exact h q e
 exact⟨rfl,by rw[v5 ha];exact e⟩
theorem Rl.frz {l:Addr}{vs:List V}{p:Path}{L':LS}(r:Rl K ca bh pn G F ow σ H L)(hl:H l=some (.lst vs))(ho:ow l=some p)(hlen:L'.length=L.length)
  (hs:∀ (j:Nat) (s:S),L'[j]?=some (some s)->(L[j]?=some (some s)/\∀ q,p≠(j+1)::q)∨∃ v,σ[j]?=some (some v)/\RS K ca (upd F l (.lst vs)) H (offAt ow l) [j+1] s v) :
  Same F (upd F l (.lst vs))/\Rl K ca bh pn G (upd F l (.lst vs)) (offAt ow l) σ H L':=by
 obtain⟨f0,g0,h0⟩:=r.dF l p ho
 have e:Same F (upd F l (.lst vs)):=dw f0
 refine⟨e,λ a o h=>?_,r.exG,λ a q h=>?_,λ a o h=>?_,hlen.trans r.len,λ j s h=>?_,r.pin,r.exB,λ a q h=>?_⟩
 ·by_cases z:a=l
  ·subst z
   rw[upd_same]at h
   cases h
   exact hl
  ·rw[upd_ne z]at h;exact r.exF a o h
 ·by_cases z:a=l
  ·subst z
   rw[uZ]at h
   cases h
  ·rw[v5 z]at h;obtain⟨x,y,w⟩:=r.dF a q h;exact⟨by rw[upd_ne z];exact x,y,w⟩
 ·by_cases z:a=l
  ·subst z
   exact .inl g0
  ·rw[upd_ne z]at h;exact r.dG a o h
 ·rcases hs j s h with ⟨h1,h2⟩ | h1
  ·obtain⟨v,q1,q2⟩:=r.sl j s h1;exact⟨v,q1,q2.go e (acp λ q z=>h2 q (by rw[ho]at z;exact Option.some.inj z))⟩
  ·obtain⟨v,q1,q2⟩:=h1;exact⟨v,q1,RT.of q2⟩
 ·by_cases z:a=l
  ·subst z
   rw[uZ]at h
   cases h
  ·rw[v5 z]at h;exact r.dB a q h
def reroot (ow:Addr->Option Path)(i j:Nat):Addr->Option Path:=λ a=>match ow a with
 | some (r::q)=>if r=i then some (j::q) else some (r::q)
 | x=>x
theorem acq {i j:Nat}{a:Addr}{q:Path}(h:ow a=some (i::q)):reroot ow i j a=some (j::q):=by
 unfold reroot;rw[h];exact if_pos rfl
theorem acr {i j r:Nat}{a:Addr}{q:Path}(h:ow a=some (r::q))(hr:r≠i):reroot ow i j a=some (r::q):=by
 unfold reroot;rw[h];exact if_neg hr
theorem sU {i j:Nat}{a:Addr}{p:Path}(h:reroot ow i j a=some p):∃ q,ow a=some q:=by
 unfold reroot at h
 split at h
 ·exact⟨_,by assumption⟩
 ·exact⟨p,h⟩
theorem Rl.moved {i j:Nat}{σ':L2.St}{L':LS}(r:Rl K ca bh pn G F ow σ H L)(hlen:L'.length=σ'.length)
  (hs:∀ (k:Nat) (s:S),L'[k]?=some (some s)->(L[k]?=some (some s)/\σ'[k]?=σ[k]?/\k+1≠i)∨∃ v,σ'[k]?=some (some v)/\RS K ca F H (reroot ow i j) [k+1] s v)
  (hp:∀ (k:Nat) (v:V),pn[k]?=some (some v)->σ'[k]?=some (some v)):Rl K ca bh pn G F (reroot ow i j) σ' H L':=by
 refine⟨r.exF,r.exG,λ a q h=>?_,r.dG,hlen,λ k s h=>?_,hp,r.exB,λ a q h=>?_⟩
 ·obtain⟨q',h'⟩:=sU h;exact r.dF a q' h'
 ·rcases hs k s h with ⟨h1,h2,h3⟩ | h1
  ·obtain⟨v,q1,q2⟩:=r.sl k s h1;refine⟨v,h2.trans q1,q2.go (Same.refl F) λ a q e=>⟨rfl,?_⟩⟩;exact acr (q:=q) e h3
  ·obtain⟨v,q1,q2⟩:=h1;exact⟨v,q1,RT.of q2⟩
 ·obtain⟨q',h'⟩:=sU h;exact r.dB a q' h'
theorem mY {i j:Nat}:Keeps H H ow (reroot ow i j) [i] [j]:=λ _ _ e=>⟨rfl,acq e⟩
end
section
variable {c:Ct}{n n1 n2 n3:Bool}
def gC (d:D):LS->R D:=λ L=>.ok d L
theorem ak0 {e:Expr}{v:V}{d:D}(h:PE c.X e (tC v))(hd:∀ K F,Dq K F v d):JD c true e (gC d):=⟨_,h,λ G F ow σ H L Rr=>Post.val Rr (hd _ _)⟩
theorem ak {i j pos}:JD c true (.Constant (.int i) j pos) (gC (.int i)):=ak0 pe_int λ _ _=>.int _
theorem sV {b j pos}:JD c true (.Constant (.bool b) j pos) (gC (.bool b)):=ak0 pe_bl λ _ _=>.bl _
theorem acs {j pos}:JD c true (.Constant .none j pos) (gC .none):=ak0 pe_non λ _ _=>.non
theorem aU {x j pos}:JD c true (.Constant (.str x) j pos) (gC (.str x)):=ak0 pe_str λ _ _=>.str _
def gVar (i:Nat):LS->R D:=λ L=>match L[i]? with
 | some (some (.d d))=>.ok d L
 | some (some (.ol ds))=>.ok (.list ds) (L.set i (some (.d (.list ds))))
 | _=>.stuck
theorem aN (i:Nat){x:Str}{pos:Pos}(h:PE c.X (.Name x pos) (tVar i)):JD c true (.Name x pos) (gVar i):=by
 refine⟨_,h,λ G F ow σ H L Rr=>?_⟩;unfold gVar
 cases hL:L[i]? with
 | none=>trivial
 | some o =>
  cases o with
  | none=>trivial
  | some s =>
   obtain⟨v,hv,rs⟩:=Rr.sl i s hL
   cases s with
   | d d =>
    cases rs with
    | d q=>exact(Post.val (b:=v) Rr q).imp λ Q q=>⟨v,hv,q⟩
   | ol ds =>
    cases rs with
    | ol a b q =>
     have hlt:i < L.length:=(List.getElem?_eq_some_iff.mp hL).1
     obtain⟨e,r'⟩:=Rr.frz (L':=L.set i (some (.d (.list ds)))) a b (List.length_set ..) (λ j s' h'=>by
      rcases gY h' with ⟨rfl,hs⟩ | ⟨hj,hs⟩
      ·cases Option.some.inj hs
       exact .inr ⟨_,hv,.d (.lst upd_same (q.up (dw (Rr.dF _ _ b).1)))⟩
      ·exact .inl ⟨hs,λ q z=>hj (by injection z with z _;omega)⟩)
     refine Post.imp (t:=λ Q=>Q _ H) ?_ λ Q q=>⟨_,hv,q⟩;intro Q q';exact q' _ H _ _ e (λ _=>Same.refl H) r' (.lst upd_same (q.up e))
   | _=>trivial
def gMove (i:Nat):LS->R S:=λ L=>match L[i]? with
 | some (some (.d d))=>.ok (.d d) L
 | some (some (.scr _))=>.stuck
 | some (some (.b _))=>.stuck
 | some (some (.bl _))=>.stuck
 | some (some s)=>.ok s (L.set i none)
 | _=>.stuck
theorem lO (i:Nat){x:Str}{pos:Pos}(h:PE c.X (.Name x pos) (tVar i)):JE c true (.Name x pos) (gMove i):=by
 refine⟨_,h,λ G F ow σ H L Rr=>?_⟩;unfold gMove
 cases hL:L[i]? with
 | none=>trivial
 | some o =>
  cases o with
  | none=>trivial
  | some s =>
   obtain⟨v,hv,rs⟩:=Rr.sl i s hL
   have own:∀ s,RS c.X.K c.ca F H ow [i+1] s v->Post c G true F H σ (.ok s (L.set i none)) (BE c.ca c.X.K) (tVar i σ H):=λ s rs=>by
    refine Post.imp (t:=λ Q=>Q v H) ?_ λ Q q=>⟨_,hv,q⟩;intro Q q';refine q' v H F (reroot ow (i+1) 0) (Same.refl F) (λ _=>Same.refl H) (Rr.moved ((List.length_set ..).trans Rr.len) (λ k s' h'=>?_) Rr.pin) (rs.go (Same.refl F) mY);rcases gY h' with ⟨rfl,hs⟩ | ⟨hj,hs⟩
    ·cases hs
    ·exact .inl ⟨hs,rfl,by omega⟩
   cases s with
   | d d=>exact(Post.val (b:=v) (B:=BE c.ca c.X.K) Rr (by cases rs with | d q=>exact .d q)).imp λ Q q=>⟨v,hv,q⟩
   | scr ns=>trivial
   | b d=>trivial
   | bl d=>trivial
   | os ss=>exact own _ rs
   | ot ss=>exact own _ rs
   | ol ds=>exact own _ rs
   | odK ds=>exact own _ rs
   | odT ds=>exact own _ rs
   | ob k fs=>exact own _ rs
def gPeek (i:Nat):LS->R D:=λ L=>match L[i]? with
 | some (some (.d d))=>.ok d L
 | some (some (.ol ds))=>.ok (.list ds) L
 | some (some (.scr ns))=>.ok (.list (ns.map PyData.int)) L
 | some (some (.bl ds))=>.ok (.list ds) L
 | _=>.stuck
theorem acu {K:PySem.W.Frag}{ca:Nat->Addr}{B F H:Hp}{ow:Addr->Option Path}{p:Path}{s:S}{v:V}(e:Same F H)(eB:Same B H)(rs:RT K ca B F H ow p s v) :
  match s with
  | .d d=>BV K F H ow d v
  | .ol ds=>BV K F H ow (.list ds) v
  | .scr ns=>BV K F H ow (.list (ns.map PyData.int)) v
  | .bl ds=>BV K F H ow (.list ds) v
  | _=>True:=by
 cases s with
 | d d=>cases rs with | d q=>exact .inl q
 | ol ds=>cases rs with | ol a b q=>exact .inr ⟨_,_,_,rfl,rfl,.of a,q⟩
 | scr ns=>cases rs with | scr a=>exact .inr ⟨_,_,_,rfl,rfl,sql_same e a,DqA.ints _⟩
 | bl ds =>
  obtain⟨l,vs,h1,h2,h3⟩:=rs
  exact .inr ⟨l,vs,ds,h1,rfl,.of (BF.inH e eB l _ h2),h3⟩
 | _=>trivial
theorem az (i:Nat){x:Str}{pos:Pos}(h:PE c.X (.Name x pos) (tVar i)):JV c true (.Name x pos) (gPeek i):=by
 refine⟨_,h,λ G F ow σ H L Rr=>?_⟩;unfold gPeek
 cases hL:L[i]? with
 | none=>trivial
 | some o =>
  cases o with
  | none=>trivial
  | some s =>
   obtain⟨v,hv,rs⟩:=Rr.sl i s hL
   have hb:=acu Rr.exF Rr.exB rs
   cases s with
   | d d=>exact(Post.val (b:=v) Rr hb).imp λ Q q=>⟨v,hv,q⟩
   | scr ns=>exact(Post.val (b:=v) Rr hb).imp λ Q q=>⟨v,hv,q⟩
   | ol ds=>exact(Post.val (b:=v) Rr hb).imp λ Q q=>⟨v,hv,q⟩
   | bl ds=>exact(Post.val (b:=v) Rr hb).imp λ Q q=>⟨v,hv,q⟩
   | _=>trivial
def gD (g:LS->R D):LS->R S:=λ L=>(g L).bind λ d L1=>.ok (.d d) L1
theorem lN {e:Expr}{g:LS->R D}(h:JD c n e g):JE c n e (gD g):=by
 obtain⟨t,ht,hg⟩:=h;refine⟨t,ht,λ G F ow σ H L Rr=>?_⟩
 have:=(hg G F ow σ H L Rr).bind (n2:=true) (k:=λ d L1=>.ok (.d d) L1) (B2:=BE c.ca c.X.K) (t2:=λ b H1 Q=>Q b H1) λ a L1 b H1 F1 ow1 _ _ _ R1 q=>Post.val (a:=S.d a) (B:=BE c.ca c.X.K) R1 (RS.d q)
 rw[Bool.and_true]at this;exact this
theorem jy {e:Expr}{g:LS->R D}(h:JD c n e g):JV c n e g:=by
 obtain⟨t,ht,hg⟩:=h;refine⟨t,ht,λ G F ow σ H L Rr=>?_⟩
 have p:=hg G F ow σ H L Rr
 cases hr:g L with
 | stuck=>trivial
 | err e L1=>rw[hr]at p;exact p
 | ok a L1 =>
  rw[hr]at p;exact λ Q q=>p Q λ b H' F' ow' e1 s1 R1 q1=>q b H' F' ow' e1 s1 R1 (.inl q1)
def frS:S->LS->R D
 | .d d,L=>.ok d L
 | .ol ds,L=>.ok (.list ds) L
 | _,_=>.stuck
def gFz (g:LS->R S):LS->R D:=λ L=>(g L).bind frS
theorem acv {G F H:Hp}{ow:Addr->Option Path}{σ:L2.St}{L:LS}{s:S}{v:V}(Rr:c.Rl G F ow σ H L)(rs:RS c.X.K c.ca F H ow [0] s v):Post c G true F H σ (frS s L) (BD c.X.K) (λ Q=>Q v H):=by
 cases s with
 | d d=>exact Post.val Rr (by cases rs with | d q=>exact q)
 | ol ds =>
  cases rs with
  | ol a b q =>
   obtain⟨e,r'⟩:=Rr.frz (L':=L) a b rfl (λ j s' h'=>.inl ⟨h',λ q z=>by injection z with z _;omega⟩);intro Q q';exact q' _ H _ _ e (λ _=>Same.refl H) r' (.lst upd_same (q.up e))
 | _=>trivial
theorem aR {e:Expr}{g:LS->R S}(h:JE c n e g):JD c n e (gFz g):=by
 obtain⟨t,ht,hg⟩:=h;refine⟨t,ht,λ G F ow σ H L Rr=>?_⟩
 have:=(hg G F ow σ H L Rr).bind (n2:=true) (k:=frS) (B2:=BD c.X.K) (t2:=λ b H1 Q=>Q b H1) λ a L1 b H1 F1 ow1 _ _ _ R1 q=>acv R1 q
 rw[Bool.and_true]at this;exact this
def onAt (ow:Addr->Option Path)(l:Addr)(p:Path):Addr->Option Path:=λ a=>if a=l then some p else ow a
theorem jK (ow:Addr->Option Path)(l:Addr)(p:Path):onAt ow l p l=some p:=if_pos rfl
theorem iH {ow:Addr->Option Path}{l a:Addr}{p:Path}(h:a≠l):onAt ow l p a=ow a:=if_neg h
theorem jC {H:Hp}{a l:Addr}(h:H a≠none)(hl:H l=none):a≠l:=λ z=>by
 subst z
 exact h hl
section
variable {K:PySem.W.Frag}{ca:Nat->Addr}{bh:Hp}{pn:List (Option V)}{G F H:Hp}{ow:Addr->Option Path}{σ:L2.St}{L:LS}
theorem Rl.keepsNew (r:Rl K ca bh pn G F ow σ H L){l:Addr}{o:HO}{p q:Path}(hl:H l=none):Keeps H (upd H l o) ow (onAt ow l p) q q:=λ a w h=>by
 have ha:a≠l:=jC (r.dF a _ h).2.2.1 hl
 exact⟨upd_ne ha,by rw[iH ha];exact h⟩
theorem Rl.new (r:Rl K ca bh pn G F ow σ H L){l:Addr}{o:HO}{p:Path}(hl:H l=none)(ho:¬ kT o:=by first | exact kT_lst | exact kT_dK | exact kT_dT | exact kT_ins):Same H (upd H l o)/\Rl K ca bh pn G F (onAt ow l p) σ (upd H l o) L:=by
 have e:Same H (upd H l o):=dw hl
 have fN:F l=none:=r.exF.free hl
 have gN:G l=none:=r.exG.free hl
 refine⟨e,r.exF.trans e,r.exG.trans e,λ a q h=>?_,r.dG,r.len,λ i s h=>?_,r.pin,r.exB.trans e,λ a q h=>?_⟩
 ·by_cases z:a=l
  ·subst z
   exact⟨fN,gN,by rw[upd_same];exact .of ho⟩
  ·rw[iH z]at h;obtain⟨x,y,w⟩:=r.dF a q h;exact⟨x,y,by rw[upd_ne z];exact w⟩
 ·obtain⟨v,q1,q2⟩:=r.sl i s h;exact⟨v,q1,q2.go (Same.refl F) (r.keepsNew hl)⟩
 ·by_cases z:a=l
  ·subst z
   exact r.exB.free hl
  ·rw[iH z]at h;exact r.dB a q h
theorem Rl.newF (r:Rl K ca bh pn G F ow σ H L){l:Addr}{o:HO}(hl:H l=none):Same F (upd F l o)/\Same H (upd H l o)/\Rl K ca bh pn G (upd F l o) ow σ (upd H l o) L:=by
 have e:Same H (upd H l o):=dw hl
 have fN:F l=none:=r.exF.free hl
 have gN:G l=none:=r.exG.free hl
 refine⟨dw fN,e,λ a u h=>?_,r.exG.trans e,λ a q h=>?_,λ a u h=>?_,r.len,λ i s h=>?_,r.pin,r.exB.trans e,r.dB⟩
 ·by_cases z:a=l
  ·subst z
   rw[upd_same]at h ⊢;exact h
  ·rw[upd_ne z]at h ⊢;exact r.exF a u h
 ·have ha:a≠l:=jC (r.dF a _ h).2.2.1 hl
  obtain⟨x,y,w⟩:=r.dF a q h;exact⟨by rw[upd_ne ha];exact x,y,by rw[upd_ne ha];exact w⟩
 ·by_cases z:a=l
  ·subst z
   exact .inl gN
  ·rw[upd_ne z]at h;exact r.dG a u h
 ·obtain⟨v,q1,q2⟩:=r.sl i s h;refine⟨v,q1,q2.go (dw fN) λ a w h=>?_⟩;exact⟨upd_ne (jC (r.dF a _ h).2.2.1 hl),h⟩
end
theorem lQ {G F H:Hp}{ow:Addr->Option Path}{σ:L2.St}{L:LS}{vs:List V}{ds:List D}(Rr:c.Rl G F ow σ H L)(h:DqA c.X.K F vs ds) :
  Post c G true F H σ (.ok (.ol ds) L) (BE c.ca c.X.K) (λ Q=>∀ l,H l=none->Q (.ref l) (upd H l (.lst vs))):=by
 intro Q q l hl;obtain⟨e,r'⟩:=Rr.new (o:=.lst vs) (p:=[0]) hl;exact q _ _ F _ (Same.refl F) (λ _=>e) r' (.ol upd_same (jK ..) h)
theorem aaM {G F H:Hp}{ow:Addr->Option Path}{σ:L2.St}{L:LS}{vs:List V}{ds:List D}(Rr:c.Rl G F ow σ H L)(h:DqA c.X.K F vs ds) :
  Post c G true F H σ (.ok (.tuple ds) L) (BD c.X.K) (λ Q=>∀ l,H l=none->Q (.ref l) (upd H l (.tup vs))):=by
 intro Q q l hl;obtain⟨e1,e,r'⟩:=Rr.newF (o:=.tup vs) hl;exact q _ _ _ ow e1 (λ _=>e) r' (.tup upd_same (h.up e1))
def gNil:LS->R (List D):=λ L=>.ok [] L
def gCons (a:LS->R D)(r:LS->R (List D)):LS->R (List D):=λ L=>(a L).bind λ d L1=>(r L1).bind λ ds L2=>.ok (d::ds) L2
theorem iI:JA c true [] gNil:=⟨_,pa_nil,λ G F ow σ H L Rr=>Post.val Rr .nil⟩
theorem aP {e:Expr}{es:List Expr}{a:LS->R D}{r:LS->R (List D)}(h1:JD c n1 e a)(h2:JA c n2 es r)(hs:starEach (e::es) c.X.env=(false,eval e c.X.env)::starEach es c.X.env:=by rfl):JA c (n1&&n2) (e::es) (gCons a r):=by
 obtain⟨t1,p1,q1⟩:=h1;obtain⟨t2,p2,q2⟩:=h2;refine⟨_,pa_cons p1 p2 hs,λ G F ow σ H L Rr=>?_⟩;refine(q1 G F ow σ H L Rr).bind λ d L1 v H1 F1 ow1 _ _ _ R1 b1=>?_
 have:=(q2 G F1 ow1 σ H1 L1 R1).bind (n2:=true) (k:=λ ds L2=>.ok (d::ds) L2) (B2:=BA c.X.K) (t2:=λ vs H2 Q=>Q (v::vs) H2) λ ds L2 vs H2 F2 ow2 _ e2 _ R2 b2=>Post.val R2 (.cons (b1.up e2) b2)
 rw[Bool.and_true]at this;exact this
def gLst (a:LS->R (List D)):LS->R S:=λ L=>(a L).bind λ ds L1=>if ds.length<=sizeLine then .ok (.ol ds) L1 else .stuck
def gTup (a:LS->R (List D)):LS->R D:=λ L=>(a L).bind λ ds L1=>if ds.length<=sizeLine then .ok (.tuple ds) L1 else .stuck
theorem Post.guard {α β:Type}{G F H:Hp}{σ:L2.St}{p:Prop}[Decidable p]{r:R α}{B:Hp->Hp->(Addr->Option Path)->α->β->Prop}{t:(β->Hp->Prop)->Prop}(h:p->Post c G n F H σ r B t):Post c G n F H σ (if p then r else .stuck) B t:=by
 by_cases hp:p
 ·rw[if_pos hp];exact h hp
 ·rw[if_neg hp]
  trivial
theorem mV {es:List Expr}{pos:Pos}{a:LS->R (List D)}(h:JA c n es a):JE c n (.List es pos) (gLst a):=by
 obtain⟨t,p,q⟩:=h;refine⟨_,pe_lst p,λ G F ow σ H L Rr=>?_⟩
 have:=(q G F ow σ H L Rr).bind (n2:=true) (k:=λ ds L1=>if ds.length<=sizeLine then R.ok (.ol ds) L1 else .stuck) (B2:=BE c.ca c.X.K) (t2:=λ vs H1 Q=>vs.length<=sizeLine/\∀ l,H1 l=none->Q (.ref l) (upd H1 l (.lst vs)))
  λ ds L1 vs H1 F1 ow1 _ _ _ R1 b1=>Post.guard λ hz=>(lQ R1 b1).imp λ Q q=>⟨by rw[DqA.len b1];exact hz,q⟩
 rw[Bool.and_true]at this;exact this
end
section
variable {c:Ct}{n n1 n2 n3:Bool}
theorem Post.bind1 {α β γ δ:Type}{G F H:Hp}{σ:L2.St}{r:R α}{k:α->LS->R γ}{B1:Hp->Hp->(Addr->Option Path)->α->β->Prop}{B2:Hp->Hp->(Addr->Option Path)->γ->δ->Prop}{t1:(β->Hp->Prop)->Prop}{t2:β->Hp->(δ->Hp->Prop)->Prop}
  (h1:Post c G n F H σ r B1 t1)
  (h2:∀ a L1 b H1 F1 ow1,r=.ok a L1->Same F F1->(n=true->Same H H1)->c.Rl G F1 ow1 σ H1 L1->B1 F1 H1 ow1 a b->Post c G true F1 H1 σ (k a L1) B2 (t2 b H1)) :
  Post c G n F H σ (r.bind k) B2 (λ Q=>t1 λ b H1=>t2 b H1 Q):=by
 have h:=h1.bind h2
 rw[Bool.and_true]at h;exact h
def sW (K:PySem.W.Frag)(r:R2)(f:D->D->Option D):Prop :=
 ∀ (F H:Hp) (x y:V) (d e z:D),Same F H->Dq K F x d->Dq K F y e->f d e=some z->∃ v,Dq K F v z/\∀ Q:VK,Q v H->r x y H Q
def Leaf2S (K:PySem.W.Frag)(r:R2)(f:D->D->Option S):Prop :=
 ∀ (F H:Hp) (x y:V) (d e:D) (z:S),Same F H->Dq K F x d->Dq K F y e->f d e=some z ->
  (∃ d v,z=.d d/\Dq K F v d/\∀ Q:VK,Q v H->r x y H Q)∨∃ ds vs,z=.ol ds/\DqA K F vs ds/\∀ Q:VK,(∀ l,H l=none->Q (.ref l) (upd H l (.lst vs)))->r x y H Q
def ofO {α:Type}(o:Option α)(L:LS):R α:=match o with
 | some a=>.ok a L
 | none=>.stuck
theorem afe {α:Type}(a:α)(L:LS):ofO (some a) L=.ok a L:=rfl
theorem afg {α:Type}(L:LS):(ofO none L:R α)=.stuck:=rfl
def gOp {α:Type}(f:D->D->Option α)(a b:LS->R D):LS->R α:=λ L=>(a L).bind λ d L1=>(b L1).bind λ e L2=>ofO (f d e) L2
theorem ahD {r:R2}{f:D->D->Option D}(lf:sW c.X.K r f){ga gb:LS->R D}{ta tb:TE}(ha:Jdg c n1 ga BD ta)(hb:Jdg c n2 gb BD tb):Jdg c (n1&&n2) (gOp f ga gb) BD (tOp r ta tb):=by
 intro G F ow σ H L Rr;refine(ha G F ow σ H L Rr).bind λ d L1 v H1 F1 ow1 _ _ _ R1 b1=>?_;refine(hb G F1 ow1 σ H1 L1 R1).bind1 λ e L2 u H2 F2 ow2 _ e2 _ R2 b2=>?_
 cases hf:f d e with
 | none=>trivial
 | some z =>
  obtain⟨w,hw,q⟩:=lf F2 H2 v u d e z R2.exF (b1.up e2) b2 hf;exact(Post.val R2 hw).imp q
theorem acw {r:R2}{f:D->D->Option S}(lf:Leaf2S c.X.K r f){ga gb:LS->R D}{ta tb:TE}(ha:Jdg c n1 ga BD ta)(hb:Jdg c n2 gb BD tb):Jdg c (n1&&n2) (gOp f ga gb) (BE c.ca) (tOp r ta tb):=by
 intro G F ow σ H L Rr;refine(ha G F ow σ H L Rr).bind λ d L1 v H1 F1 ow1 _ _ _ R1 b1=>?_;refine(hb G F1 ow1 σ H1 L1 R1).bind1 λ e L2 u H2 F2 ow2 _ e2 _ R2 b2=>?_
 cases hf:f d e with
 | none=>trivial
 | some z =>
  rcases lf F2 H2 v u d e z R2.exF (b1.up e2) b2 hf with ⟨d',w,rfl,hw,q⟩ | ⟨ds,vs,rfl,hw,q⟩
  ·exact(Post.val (a:=S.d d') (B:=BE c.ca c.X.K) R2 (RS.d hw)).imp q
  ·exact(lQ R2 hw).imp q
theorem Leaf2S.or {K:PySem.W.Frag}{r r':R2}{f f':D->D->Option S}(h:Leaf2S K r f)(h':Leaf2S K r' f'):Leaf2S K (λ x y H Q=>r x y H Q∨r' x y H Q) (λ d e=>(f d e).orElse λ _=>f' d e):=by
 intro F H x y d e z s hx hy hf
 have hf:(f d e).orElse (λ _=>f' d e)=some z:=hf
 cases h1:f d e with
 | some w =>
  rw[h1]at hf
  rcases h F H x y d e w s hx hy h1 with ⟨a,b,p,q,k⟩ | ⟨a,b,p,q,k⟩
  ·cases hf;exact .inl ⟨a,b,p,q,λ Q z=>.inl (k Q z)⟩
  ·cases hf;exact .inr ⟨a,b,p,q,λ Q z=>.inl (k Q z)⟩
 | none =>
  rw[h1]at hf
  have h2:f' d e=some z:=hf
  rcases h' F H x y d e z s hx hy h2 with ⟨a,b,p,q,k⟩ | ⟨a,b,p,q,k⟩
  ·exact .inl ⟨a,b,p,q,λ Q z=>.inr (k Q z)⟩
  ·exact .inr ⟨a,b,p,q,λ Q z=>.inr (k Q z)⟩
def v7 (C:Int->Int->Bool)(g:Int->Int->D):D->D->Option D
 | .int i,.int j=>if C i j then some (g i j) else none
 | _,_=>none
theorem leaf_int {K:PySem.W.Frag}{r:R2}{C:Int->Int->Bool}{g:Int->Int->D}{gv:Int->Int->V}(hr:∀ (i j:Int) (H:Hp) (Q:VK),C i j=true->Q (gv i j) H->r (.int i) (.int j) H Q)(hg:∀ i j F,Dq K F (gv i j) (g i j)):sW K r (v7 C g):=by
 intro F H x y d e z _ hx hy hf
 cases hx with
 | int i =>
  cases hy with
  | int j =>
   by_cases hC:C i j=true
   ·have hf':some (g i j)=some z:=by
     have:v7 C g (.int i) (.int j)=some (g i j):=if_pos hC
     rw[this]at hf
     exact hf
    cases hf'
    exact⟨_,hg i j F,λ Q q=>hr i j H Q hC q⟩
   ·have:v7 C g (.int i) (.int j)=none:=if_neg hC
    rw[this]at hf
    cases hf
  | _=>cases hf
 | _=>cases hf
abbrev aoX:Int->Int->Bool:=λ _ _=>true
def mulOk (i j:Int):Bool:=decide ((-(2 ^ 64) < i/\i < 2 ^ 64)∨(-(2 ^ 64) < j/\j < 2 ^ 64))
def divOk (_ j:Int):Bool:=decide (0 < j/\j < 1073741824)
def modOk (_ j:Int):Bool:=decide (0 < j)
def powOk (i j:Int):Bool:=decide (0<=j/\j<=1000000/\i.natAbs < 2 ^ 64)
theorem afh {i j:Int}(h:mulOk i j=true):CMul i j:=by
 have h':=of_decide_eq_true h
 exact h'
theorem afi {i j:Int}(h:divOk i j=true):CDiv i j:=by
 have h':=of_decide_eq_true h
 exact h'
theorem afj {i j:Int}(h:powOk i j=true):CPow i j:=by
 have h':=of_decide_eq_true h
 exact h'
def dSub:D->D->Option D:=v7 aoX λ i j=>.int (i - j)
def dMod:D->D->Option D:=v7 modOk λ i j=>.int (i % j)
def dDiv:D->D->Option D:=v7 divOk λ i j=>.int (i / j)
def dPow:D->D->Option D:=v7 powOk λ i j=>.int (i ^ j.toNat)
def dLift (f:D->D->Option D):D->D->Option S:=λ d e=>(f d e).map S.d
theorem sW.lift {K:PySem.W.Frag}{r:R2}{f:D->D->Option D}(h:sW K r f):Leaf2S K r (dLift f):=by
 intro F H x y d e z s hx hy hf
 obtain⟨w,hw,e1⟩:=Option.map_eq_some_iff.mp hf
 obtain⟨v,hv,q⟩:=h F H x y d e w s hx hy hw
 exact .inl ⟨w,v,e1.symm,hv,q⟩
def dAddI:D->D->Option D:=v7 aoX λ i j=>.int (i+j)
def dAddT:D->D->Option D
 | .str x,.str y=>if x.length+y.length<=sizeLine then some (.str (x++y)) else none
 | _,_=>none
def dAddL:D->D->Option S
 | .list xs,.list ys=>if xs.length+ys.length<=sizeLine then some (.ol (xs++ys)) else none
 | _,_=>none
def dAdd:D->D->Option S:=λ d e=>(dLift dAddI d e).orElse λ _=>(dLift dAddT d e).orElse λ _=>dAddL d e
theorem afk (i j:Int):dAdd (.int i) (.int j)=some (.d (.int (i+j))):=rfl
theorem aaN (x y:Str):dAdd (.str x) (.str y)=if x.length+y.length<=sizeLine then some (.d (.str (x++y))) else none:=by
 show((dAddT (.str x) (.str y)).map S.d).orElse _=_;unfold dAddT
 by_cases h:x.length+y.length<=sizeLine
 ·simp[h]
 ·simp[h,dAddL]
theorem acx (x y:List D):dAdd (.list x) (.list y)=if x.length+y.length<=sizeLine then some (.ol (x++y)) else none:=rfl
def dMulI:D->D->Option D:=v7 mulOk λ i j=>.int (i * j)
def repOk (n:Nat)(k:Int):Bool:=decide (-(2 ^ 63)<=k/\k < 2 ^ 63/\n * k.toNat<=sizeLine)
def dMulL:D->D->Option S
 | .list xs,.int k=>if repOk xs.length k then some (.ol (List.replicate k.toNat xs).flatten) else none
 | _,_=>none
def dMul:D->D->Option S:=λ d e=>(dLift dMulI d e).orElse λ _=>dMulL d e
theorem ak1 {K:PySem.W.Frag}:sW K (rI0 λ i j=>.int (i+j)) dAddI:=leaf_int (gv:=λ i j=>.int (i+j)) (λ i j H Q _ q=>⟨i,j,rfl,rfl,q⟩) λ _ _ _=>.int _
theorem ak2 {K:PySem.W.Frag}:sW K (λ x y H Q=>∃ i j,x=.str i/\y=.str j/\i.length+j.length<=sizeLine/\Q (.str (i++j)) H) dAddT:=by
 intro F H x y d e z _ hx hy hf
 cases hx with
 | str a =>
  cases hy with
  | str b =>
   by_cases h:a.length+b.length<=sizeLine
   ·have hz:some (PyData.str (a++b))=some z:=(if_pos h).symm.trans hf
    cases hz
    exact⟨_,.str _,λ Q q=>⟨a,b,rfl,rfl,h,q⟩⟩
   ·have hz:none=some z:=(if_neg h).symm.trans hf
    cases hz
  | _=>cases hf
 | _=>cases hf
theorem acy {K:PySem.W.Frag}:Leaf2S K rCat dAddL:=by
 intro F H x y d e z s hx hy hf
 cases hx with
 | lst a1 a2 =>
  cases hy with
  | lst b1 b2 =>
   rename_i l xs ds l' ys es
   by_cases h:ds.length+es.length<=sizeLine
   ·have hz:some (S.ol (ds++es))=some z:=(if_pos h).symm.trans hf
    cases hz
    exact .inr ⟨_,xs++ys,rfl,a2.append b2,λ Q q=>⟨l,l',xs,ys,rfl,rfl,s _ _ a1,s _ _ b1,by rw[a2.len,b2.len];exact h,q⟩⟩
   ·have hz:none=some z:=(if_neg h).symm.trans hf
    cases hz
  | _=>cases hf
 | _=>cases hf
theorem DqA.flat {K:PySem.W.Frag}{F:Hp}{vs:List V}{ds:List D}(h:DqA K F vs ds):∀ k:Nat,DqA K F (List.replicate k vs).flatten (List.replicate k ds).flatten
 | 0=>.nil
 | k+1=>by
  rw[List.replicate_succ,List.replicate_succ,List.flatten_cons,List.flatten_cons]
  exact h.append (h.flat k)
theorem acz {K:PySem.W.Frag}:Leaf2S K rRep dMulL:=by
 intro F H x y d e z s hx hy hf
 cases hx with
 | lst a1 a2 =>
  cases hy with
  | int k =>
   rename_i l xs ds
   by_cases h:repOk ds.length k=true
   ·have hz:some (S.ol (List.replicate k.toNat ds).flatten)=some z:=(if_pos h).symm.trans hf
    cases hz
    obtain⟨h1,h2,h3⟩:=of_decide_eq_true h
    exact .inr ⟨_,_,rfl,a2.flat _,λ Q q=>⟨l,k,xs,rfl,rfl,s _ _ a1,h1,h2,by rw[a2.len];exact h3,q⟩⟩
   ·have hz:none=some z:=(if_neg h).symm.trans hf
    cases hz
  | _=>cases hf
 | _=>cases hf
variable {a b:Expr}{ga gb:LS->R D}{pos:Pos}
theorem dD (ha:JD c n1 a ga)(hb:JD c n2 b gb):JE c (n1&&n2) (.BinOp a .Add b pos) (gOp dAdd ga gb):=by
 obtain⟨ta,p1,q1⟩:=ha;obtain⟨tb,p2,q2⟩:=hb;exact⟨_,pe_op (op_add.or (op_add_str.or op_cat)) p1 p2,acw (ak1.lift.or (ak2.lift.or acy)) q1 q2⟩
theorem ahE (ha:JD c n1 a ga)(hb:JD c n2 b gb):JE c (n1&&n2) (.BinOp a .Mult b pos) (gOp dMul ga gb):=by
 obtain⟨ta,p1,q1⟩:=ha;obtain⟨tb,p2,q2⟩:=hb;exact⟨_,pe_op (op_mul.or op_rep) p1 p2,acw ((leaf_int (gv:=λ i j=>.int (i * j)) (λ i j H Q hc q=>⟨i,j,rfl,rfl,afh hc,q⟩) λ _ _ _=>.int _:sW c.X.K (rI CMul λ i j=>.int (i * j)) dMulI).lift.or acz) q1 q2⟩
theorem acA {op:Operator}{r:R2}{f:D->D->Option D}(ho:OpR c.X (binaryOp op) r)(lf:sW c.X.K r f)(ha:JD c n1 a ga)(hb:JD c n2 b gb):JD c (n1&&n2) (.BinOp a op b pos) (gOp f ga gb):=by
 obtain⟨ta,p1,q1⟩:=ha;obtain⟨tb,p2,q2⟩:=hb;exact⟨_,pe_op ho p1 p2,ahD lf q1 q2⟩
theorem vf (ha:JD c n1 a ga)(hb:JD c n2 b gb):JD c (n1&&n2) (.BinOp a .Mod b pos) (gOp dMod ga gb) :=
 acA op_mod (leaf_int (gv:=λ i j=>.int (i % j)) (λ i j H Q hc q=>⟨i,j,rfl,rfl,of_decide_eq_true hc,q⟩) λ _ _ _=>.int _) ha hb
theorem acB (ha:JD c n1 a ga)(hb:JD c n2 b gb):JD c (n1&&n2) (.BinOp a .FloorDiv b pos) (gOp dDiv ga gb) :=
 acA op_fdiv (leaf_int (gv:=λ i j=>.int (i / j)) (λ i j H Q hc q=>⟨i,j,rfl,rfl,afi hc,q⟩) λ _ _ _=>.int _) ha hb
theorem ak3 (ha:JD c n1 a ga)(hb:JD c n2 b gb):JD c (n1&&n2) (.BinOp a .Pow b pos) (gOp dPow ga gb) :=
 acA op_pow (leaf_int (gv:=λ i j=>.int (i ^ j.toNat)) (λ i j H Q hc q=>⟨i,j,rfl,rfl,afj hc,q⟩) λ _ _ _=>.int _) ha hb
def dNeg:D->Option D
 | .int i=>some (.int (-i))
 | _=>none
def gUn {α:Type}(f:D->Option α)(a:LS->R D):LS->R α:=λ L=>(a L).bind λ d L1=>ofO (f d) L1
theorem acC (ha:JD c n a ga):JD c n (.UnaryOp .USub a pos) (gUn dNeg ga):=by
 obtain⟨ta,p1,q1⟩:=ha;refine⟨_,pe_un un_neg p1,λ G F ow σ H L Rr=>(q1 G F ow σ H L Rr).bind1 λ d L1 v H1 F1 ow1 _ _ _ R1 b1=>?_⟩
 cases b1 with
 | int i=>exact(Post.val (a:=PyData.int (-i)) (B:=BD c.X.K) R1 (Dq.int _)).imp λ Q q=>⟨i,rfl,q⟩
 | _=>trivial
def dCmp (f:Int->Int->Bool)(g:Str->Str->Bool):D->D->Option D
 | .int i,.int j=>some (.bool (f i j))
 | .str x,.str y=>some (.bool (g x y))
 | _,_=>none
def dLt:D->D->Option D:=dCmp (λ i j=>decide (i < j)) λ x y=>decide (x.cps.toList < y.cps.toList)
def dLe:D->D->Option D:=dCmp (λ i j=>decide (i<=j)) λ x y=>!decide (y.cps.toList < x.cps.toList)
def dGt:D->D->Option D:=dCmp (λ i j=>decide (j < i)) λ x y=>decide (y.cps.toList < x.cps.toList)
def dGe:D->D->Option D:=dCmp (λ i j=>decide (j<=i)) λ x y=>!decide (x.cps.toList < y.cps.toList)
theorem anc {K:PySem.W.Frag}{f:Int->Int->Bool}{g:Str->Str->Bool}:sW K (λ x y H Q=>rI0 (λ i j=>.bl (f i j)) x y H Q∨∃ i j,x=.str i/\y=.str j/\Q (.bl (g i j)) H) (dCmp f g):=by
 intro F H x y d e z _ hx hy hf
 cases hx with
 | int i =>
  cases hy with
  | int j =>
   cases hf
   exact⟨_,.bl _,λ Q q=>.inl ⟨i,j,rfl,rfl,q⟩⟩
  | _=>cases hf
 | str i =>
  cases hy with
  | str j =>
   cases hf
   exact⟨_,.bl _,λ Q q=>.inr ⟨i,j,rfl,rfl,q⟩⟩
  | _=>cases hf
 | _=>cases hf
def scalD:D->D->Bool
 | .none,.none=>true
 | .none,.int _=>true
 | .int _,.none=>true
 | .none,.bool _=>true
 | .bool _,.none=>true
 | .none,.str _=>true
 | .str _,.none=>true
 | .int _,.int _=>true
 | .bool _,.bool _=>true
 | .str _,.str _=>true
 | .int _,.str _=>true
 | .str _,.int _=>true
 | .bool _,.str _=>true
 | .str _,.bool _=>true
 | _,_=>false
def eqOk (d e:D):Prop:=scalD d e=true∨(SeqAt.shaped d=true/\SeqAt.shaped e=true)
instance (d e:D):Decidable (eqOk d e):=inferInstanceAs (Decidable (_∨_))
def dEq:D->D->Option D:=λ d e=>if eqOk d e then some (.bool (d.eqv e)) else none
def dNe:D->D->Option D:=λ d e=>if eqOk d e then some (.bool (!d.eqv e)) else none
theorem acD {K:PySem.W.Frag}{F:Hp}{x y:V}{d e:D}(hx:Dq K F x d)(hy:Dq K F y e)(h:scalD d e=true):scal x y=true/\d.eqv e=decide (x=y):=by
 cases hx<;>cases hy<;>first
  | (exfalso;exact Bool.noConfusion h)
  | (refine⟨rfl,?_⟩;simp only[PyData.eqv];first | (symm;simp;done) | (rw[Bool.beq_eq_decide_eq];apply decide_eq_decide.mpr;constructor;(intro z;rw[z]);(intro z;injection z)))
def aid:R2:=λ x y H Q=>rIsB x y H Q∨(x=.non/\(∃ b:Bool,y=.bl b)/\Q (.bl false) H)
theorem afl {X:Cx}:OpR X (compareOp .Is) aid:=by
 intro pins s σ H x y v u Q I rx ry h;rcases h with h | ⟨rfl,⟨b,rfl⟩,q⟩
 ·exact op_isBl pins s σ H x y v u Q I rx ry h
 ·cases rx
  cases (show u=Value.bool b from ry)
  exact wpAny_is_other rfl (λ z=>nomatch z) ⟨.bl false,H,I,rfl,q⟩
def dIs:D->D->Option D
 | .bool a,.bool b=>some (.bool (decide (a=b)))
 | .none,.bool _=>some (.bool false)
 | .none,.none=>some (.bool true)
 | _,.none=>some (.bool false)
 | _,_=>none
theorem aie {K:PySem.W.Frag}:sW K (λ x y H Q=>(y=.non/\Q (.bl (decide (x=.non))) H)∨aid x y H Q) dIs:=by
 intro F H x y d e z s hx hy hf
 cases hy with
 | non=>cases hx<;>(cases hf;exact⟨_,.bl _,λ Q q=>.inl ⟨rfl,q⟩⟩)
 | bl b =>
  cases hx with
  | bl a =>
   cases hf
   exact⟨_,.bl _,λ Q q=>.inr (.inl ⟨a,b,rfl,rfl,q⟩)⟩
  | non =>
   cases hf
   exact⟨_,.bl _,λ Q q=>.inr (.inr ⟨rfl,⟨b,rfl⟩,q⟩)⟩
  | _=>cases hf
 | _=>cases hx<;>cases hf
def flatD:D->Bool
 | .none=>true
 | .bool _=>true
 | .int _=>true
 | .str _=>true
 | _=>false
def inOk (d:D)(ds:List D):Prop:=(flatD d=true/\ds.all flatD=true)∨(SeqAt.shaped d=true/\SeqAt.shaped (.list ds)=true)
instance (d:D)(ds:List D):Decidable (inOk d ds):=inferInstanceAs (Decidable (_∨_))
def dInB (d e:D):Option Bool:=match e with
 | .list ds=>if inOk d ds then some (ds.any λ z=>z.eqv d) else none
 | .tuple ds=>if flatD d=true/\ds.all flatD=true then some (ds.any λ z=>z.eqv d) else none
 | .str y=>(match d with
  | .str x=>if x.length=1 then some (decide (x.cps.getD 0 0∈y.cps.toList)) else none
  | _=>none)
 | _=>none
def dNotIn:D->D->Option D:=λ d e=>(dInB d e).map λ b=>.bool (!b)
theorem sX {K:PySem.W.Frag}{F:Hp}{v:V}{d:D}(h:Dq K F v d)(hd:flatD d=true):flatV v=true:=by
 cases h<;>first | rfl | cases hd
theorem pG {K:PySem.W.Frag}{F:Hp}:∀ {vs:List V} {ds:List D},DqA K F vs ds->ds.all flatD=true->vs.all flatV=true
 | _,_,.nil,_=>rfl
 | _,_,.cons a b,h=>by
  rw[List.all_cons,Bool.and_eq_true]at h ⊢
  exact⟨sX a h.1,pG b h.2⟩
theorem aif {K:PySem.W.Frag}{F:Hp}{v u:V}{d e:D}(h:Dq K F v d)(h':Dq K F u e)(hd:flatD d=true)(he:flatD e=true):eqV v u=d.eqv e:=by
 cases h<;>cases h'<;>first
  | rfl
  | (exfalso;exact Bool.noConfusion hd)
  | (exfalso;exact Bool.noConfusion he)
  | simp only[eqV,PyData.eqv]
theorem sY {K:PySem.W.Frag}{F:Hp}{v:V}{d:D}(h:Dq K F v d)(hd:flatD d=true):∀ {vs:List V} {ds:List D},DqA K F vs ds->ds.all flatD=true->inV v vs=ds.any λ z=>z.eqv d
 | _,_,.nil,_=>rfl
 | _,_,.cons a b,hh=>by
  rw[List.all_cons,Bool.and_eq_true]at hh
  have:=sY h hd b hh.2
  unfold inV at this ⊢
  rw[List.any_cons,List.any_cons,this,aif a h hh.1 hd]
theorem one_sign {x:Str}(h:x.length=1):x=⟨#[x.cps.getD 0 0]⟩:=by
 obtain⟨cps⟩:=x
 have h':cps.size=1:=h
 congr 1
 apply Array.ext
 ·simp[h']
 ·intro i h1 h2
  have:i=0:=by
   simp at h2
   omega
  subst this
  simp[Array.getD,h']
theorem acE {K:PySem.W.Frag}{F H:Hp}{x y:V}{d e:D}{z:Bool}(s:Same F H)(hx:Dq K F x d)(hy:Dq K F y e)(hf:dInB d e=some z)(neg:Bool)(Q:VK)(q:Q (.bl (if neg then !z else z)) H) :
  (∃ (c:Nat) (w:Str),x=.str ⟨#[c]⟩/\y=.str w/\Q (.bl (if neg then !decide (c∈w.cps.toList) else decide (c∈w.cps.toList))) H) ∨
   (∃ d ds,Dp K H x d/\Dp K H y (.list ds)/\SeqAt.shaped d=true/\SeqAt.shaped (.list ds)=true/\Q (.bl (if neg then !ds.any (λ z=>PyData.eqv z d) else ds.any λ z=>PyData.eqv z d)) H)∨rIn K neg x y H Q:=by
 cases hy with
 | lst a1 a2 =>
  rename_i l vs ds
  have hf:(if inOk d ds then some (ds.any λ z=>z.eqv d) else none)=some z:=hf
  by_cases h:inOk d ds
  ·rw[if_pos h]at hf
   cases hf
   rcases h with h | h
   ·rw[←sY hx h.1 a2 h.2]at q
    exact .inr (.inr ⟨l,vs,rfl,.inl (.of (s _ _ a1)),sX hx h.1,pG a2 h.2,q⟩)
   ·exact .inr (.inl ⟨d,ds,(hx.up s).dp,((Dq.lst a1 a2).up s).dp,h.1,h.2,q⟩)
  ·rw[if_neg h]at hf
   cases hf
 | tup a1 a2 =>
  rename_i l vs ds
  have hf:(if flatD d=true/\ds.all flatD=true then some (ds.any λ z=>z.eqv d) else none)=some z:=hf
  by_cases h:flatD d=true/\ds.all flatD=true
  ·rw[if_pos h]at hf
   cases hf
   rw[←sY hx h.1 a2 h.2]at q
   exact .inr (.inr ⟨l,vs,rfl,.inr (sqt_same s a1),sX hx h.1,pG a2 h.2,q⟩)
  ·rw[if_neg h]at hf
   cases hf
 | str w =>
  cases hx with
  | str x =>
   have hf':(if x.length=1 then some (decide (x.cps.getD 0 0∈w.cps.toList)) else none)=some z:=hf
   by_cases h:x.length=1
   ·rw[if_pos h]at hf'
    cases hf'
    exact .inl ⟨_,w,by rw[←one_sign h],rfl,q⟩
   ·rw[if_neg h]at hf'
    cases hf'
  | _=>cases hf
 | _=>cases hx<;>cases hf
def acF (K:PySem.W.Frag):R2:=λ x y H Q=>(∃ (c:Nat) (z:Str),x=.str ⟨#[c]⟩/\y=.str z/\Q (.bl (!decide (c∈z.cps.toList))) H)∨rNotInD K x y H Q∨rIn K true x y H Q
variable {k:Nat}
theorem ak4 {A:Around}(hr:Room k A):A.units+65 < cLine:=by have:=hr.un;omega
def asB:D->LS->R Bool
 | .bool b,L=>.ok b L
 | _,_=>.stuck
def gB (g:LS->R D):LS->R Bool:=λ L=>(g L).bind asB
theorem afm {g:LS->R D}{t:TE}(h:Jdg c n g BD t):Jdg c n (gB g) BB (λ σ H Q=>t σ H λ x H'=>∃ k,x=.bl k/\Q k H'):=by
 intro G F ow σ H L Rr;refine(h G F ow σ H L Rr).bind1 (t2:=λ x H' Q=>∃ k,x=.bl k/\Q k H') λ d L1 v H1 F1 ow1 _ _ _ R1 b1=>?_
 cases b1 with
 | bl b=>exact(Post.val (a:=b) (b:=b) (B:=BB c.X.K) R1 rfl).imp λ Q q=>⟨b,rfl,q⟩
 | _=>trivial
theorem kZ {e:Expr}{g:LS->R D}(h:JD c n e g)(he:∀ whole,isTrue e c.X.env whole=(do let v ←whole;standAt e.pos;holding [v] (truthy v)):=by intro _;rfl):JT c n e (gB g):=by
 obtain⟨t,p,q⟩:=h;exact⟨_,pt_val p he,afm q⟩
variable {g1 g2:LS->R Bool}{rest:List Expr}
def gAnd (a b:LS->R Bool):LS->R Bool:=λ L=>(a L).bind λ x L1=>if x=true then b L1 else .ok false L1
def gOr (a b:LS->R Bool):LS->R Bool:=λ L=>(a L).bind λ x L1=>if x=true then .ok true L1 else b L1
def gNot (a:LS->R Bool):LS->R Bool:=λ L=>(a L).bind λ x L1=>.ok (!x) L1
theorem aig (ha:JT c n a g1):JW c n (.BoolOp .And [a] pos) g1:=by
 obtain⟨t,p,q⟩:=ha;exact⟨_,pw_and1 p,q⟩
theorem vg (ha:JT c n a g1):JW c n (.BoolOp .Or [a] pos) g1:=by
 obtain⟨t,p,q⟩:=ha;exact⟨_,pw_or1 p,q⟩
theorem ak5 (ha:JT c n1 a g1)(hb:JW c n2 (.BoolOp .And (b::rest) pos) g2):JW c (n1&&n2) (.BoolOp .And (a::b::rest) pos) (gAnd g1 g2):=by
 obtain⟨t,p,q⟩:=ha;obtain⟨t',p',q'⟩:=hb;refine⟨_,pw_and p p',λ G F ow σ H L Rr=>(q G F ow σ H L Rr).bind (t2:=λ x H1 Q=>if x=true then t' σ H1 Q else Q false H1) λ x L1 v H1 F1 ow1 _ _ _ R1 b1=>?_⟩
 cases b1
 cases x with
 | true=>exact q' G F1 ow1 σ H1 L1 R1
 | false=>exact Post.val (b:=false) (B:=BB c.X.K) R1 rfl
theorem xX (ha:JT c n1 a g1)(hb:JW c n2 (.BoolOp .Or (b::rest) pos) g2):JW c (n1&&n2) (.BoolOp .Or (a::b::rest) pos) (gOr g1 g2):=by
 obtain⟨t,p,q⟩:=ha;obtain⟨t',p',q'⟩:=hb;refine⟨_,pw_or p p',λ G F ow σ H L Rr=>(q G F ow σ H L Rr).bind (t2:=λ x H1 Q=>if x=true then Q true H1 else t' σ H1 Q) λ x L1 v H1 F1 ow1 _ _ _ R1 b1=>?_⟩
 cases b1
 cases x with
 | false=>exact q' G F1 ow1 σ H1 L1 R1
 | true=>exact Post.val (b:=true) (B:=BB c.X.K) R1 rfl
theorem aih {e:Expr}(h:JW c n e g1):JT c n e g1:=by
 obtain⟨t,p,q⟩:=h;exact⟨_,p.pt,q⟩
theorem tD (h:JT c n a g1):JT c n (.UnaryOp .Not a pos) (gNot g1):=by
 obtain⟨t,p,q⟩:=h;refine⟨_,pt_not p,λ G F ow σ H L Rr=>(q G F ow σ H L Rr).bind1 (t2:=λ x H1 Q=>Q (!x) H1) λ x L1 v H1 F1 ow1 _ _ _ R1 b1=>?_⟩
 cases b1
 exact Post.val (b:=!x) (B:=BB c.X.K) R1 rfl
def gAndV (a b:LS->R D):LS->R D:=λ L=>(a L).bind λ d L1=>match d with
 | .bool x=>if x=true then b L1 else .ok (.bool false) L1
 | _=>.stuck
def gOrV (a b:LS->R D):LS->R D:=λ L=>(a L).bind λ d L1=>match d with
 | .bool x=>if x=true then .ok (.bool true) L1 else b L1
 | _=>.stuck
def dNot:D->Option D
 | .bool b=>some (.bool (!b))
 | _=>none
theorem aaO {op}(h:JD c n a ga):JD c n (.BoolOp op [a] pos) ga:=by
 obtain⟨t,p,q⟩:=h;exact⟨_,pe_one p,q⟩
theorem aaP (ha:JD c n1 a ga)(hb:JD c n2 (.BoolOp .And (b::rest) pos) gb):JD c (n1&&n2) (.BoolOp .And (a::b::rest) pos) (gAndV ga gb):=by
 obtain⟨t,p,q⟩:=ha;obtain⟨t',p',q'⟩:=hb;refine⟨_,pe_and p p',λ G F ow σ H L Rr=>(q G F ow σ H L Rr).bind (t2:=λ x H1 Q=>∃ k,x=.bl k/\if k=true then t' σ H1 Q else Q (.bl false) H1) λ d L1 v H1 F1 ow1 _ _ _ R1 b1=>?_⟩
 cases b1 with
 | bl x =>
  cases x with
  | true=>exact(q' G F1 ow1 σ H1 L1 R1).imp λ Q h=>⟨true,rfl,h⟩
  | false=>exact(Post.val (b:=V.bl false) (B:=BD c.X.K) R1 (.bl false)).imp λ Q h=>⟨false,rfl,h⟩
 | _=>trivial
theorem ak6 (h:JD c n a ga):JD c n (.UnaryOp .Not a pos) (gUn dNot ga):=by
 obtain⟨t,p,q⟩:=h;refine⟨_,pe_not p,λ G F ow σ H L Rr=>(q G F ow σ H L Rr).bind1 (t2:=λ(x:V) H1 (Q:VK)=>∃ k,x=V.bl k/\Q (V.bl (!k)) H1) λ x L1 v H1 F1 ow1 _ _ _ R1 b1=>?_⟩
 cases b1 with
 | bl x=>exact(Post.val (a:=PyData.bool (!x)) (b:=V.bl (!x)) (B:=BD c.X.K) R1 (.bl _)).imp λ Q h=>⟨x,rfl,h⟩
 | _=>trivial
def gIfE {α:Type}(t:LS->R Bool)(a b:LS->R α):LS->R α:=λ L=>(t L).bind λ x L1=>if x=true then a L1 else b L1
end
section
variable {c:Ct}{n n1 n2 n3:Bool}{a b:Expr}{ga gb:LS->R D}{pos:Pos}
def dIx (d e:D):Option D:=match e with
 | .int i=>(match d with
  | .list xs=>atI xs i
  | .tuple xs=>atI xs i
  | .str s=>if s.length<=sizeLine then(atI s.cps.toList i).map λ k=>.str ⟨#[k]⟩ else none
  | _=>none)
 | _=>none
theorem DqA.at {K:PySem.W.Frag}{F:Hp}{vs:List V}{ds:List D}{i:Int}{z:D}(h:DqA K F vs ds)(e:atI ds i=some z):∃ v,atI vs i=some v/\Dq K F v z:=by
 unfold atI at e ⊢
 rw[h.len]
 cases hj:ixN ds.length i with
 | none=>rw[hj]at e;cases e
 | some j =>
  rw[hj]at e
  exact h.get e
theorem acG {K:PySem.W.Frag}{F H:Hp}{ow:Addr->Option Path}{x y:V}{d e z:D}(s:Same F H)(hx:BV K F H ow d x)(hy:Dq K F y e)(hf:dIx d e=some z):∃ v,Dq K F v z/\∀ Q:VK,Q v H->rIx K x y H Q:=by
 cases hy with
 | int i =>
  have seq:∀ {l:Addr} {vs:List V} {ds:List D},x=.ref l->d=.list ds->SqL K H l vs->DqA K F vs ds->∃ v,Dq K F v z/\∀ Q:VK,Q v H->rIx K x (.int i) H Q:=λ {l vs ds} hl hd h1 h2=>by
   subst hl hd
   obtain⟨v,h3,h4⟩:=h2.at (show atI ds i=some z from hf)
   exact⟨v,h4,λ Q q=>.inl ⟨l,vs,i,v,rfl,rfl,h1,h3,q⟩⟩
  rcases hx with hx | ⟨l,vs,ds,rfl,rfl,h1,h2⟩
  ·cases hx with
   | lst h1 h2=>exact seq rfl rfl (.of (s _ _ h1)) h2
   | tup h1 h2 =>
    rename_i l vs ds
    obtain⟨v,h3,h4⟩:=h2.at (show atI ds i=some z from hf)
    exact⟨v,h4,λ Q q=>.inr (.inl ⟨l,vs,i,v,rfl,rfl,sqt_same s h1,h3,q⟩)⟩
   | str w =>
    have hf:(if w.length<=sizeLine then(atI w.cps.toList i).map λ k=>PyData.str ⟨#[k]⟩ else none)=some z:=hf
    by_cases hw:w.length<=sizeLine
    ·rw[if_pos hw]at hf
     obtain⟨k,hk,rfl⟩:=Option.map_eq_some_iff.mp hf
     exact⟨_,.str _,λ Q q=>.inr (.inr ⟨w,i,k,rfl,rfl,hw,hk,q⟩)⟩
    ·rw[if_neg hw]at hf
     cases hf
   | _=>cases hf
  ·exact seq rfl rfl h1 h2
 | _=>cases hf
theorem aii {K:PySem.W.Frag}:sW K (rIx K) dIx:=λ F H x y d e z s hx hy hf=>acG (ow:=λ _=>none) s (.inl hx) hy hf
theorem aij (ha:JD c n1 a ga)(hb:JD c n2 b gb)(hs:PlainIx b:=by exact λ _ _=>rfl):JD c (n1&&n2) (.Subscript a b pos) (gOp dIx ga gb):=by
 obtain⟨ta,p1,q1⟩:=ha;obtain⟨tb,p2,q2⟩:=hb;exact⟨_,pe_ix ix_seq p1 p2 hs,ahD aii q1 q2⟩
theorem BV.up {K:PySem.W.Frag}{F F' H H':Hp}{ow ow':Addr->Option Path}{d:D}{v:V}(h:BV K F H ow d v)(e:Same F F')(e2:Same H H'):BV K F' H' ow' d v:=by
 rcases h with h | ⟨l,vs,ds,h1,h2,h3,h4⟩
 ·exact .inl (h.up e)
 ·exact .inr ⟨l,vs,ds,h1,h2,sql_same e2 h3,h4.up e⟩
def gIxP (i:Nat)(gb:LS->R D):LS->R D:=λ L=>match L[i]? with
 | some (some _)=>(gb L).bind λ e L1=>(gPeek i L1).bind λ d L2=>ofO (dIx d e) L2
 | _=>.stuck
theorem aik {G F H:Hp}{ow:Addr->Option Path}{σ:L2.St}{L L':LS}{i:Nat}{d:D}{v:V}(Rr:c.Rl G F ow σ H L)(hv:σ[i]?=some (some v))(h:gPeek i L=.ok d L'):L'=L/\BV c.X.K F H ow d v:=by
 unfold gPeek at h
 cases hL:L[i]? with
 | none=>rw[hL]at h;cases h
 | some o =>
  rw[hL]at h
  cases o with
  | none=>cases h
  | some s =>
   obtain⟨u,hu,rs⟩:=Rr.sl i s hL;rw[hv]at hu
   cases hu
   have hb:=acu Rr.exF Rr.exB rs
   cases s<;>cases h<;>exact⟨rfl,hb⟩
theorem cP (i:Nat){x:Str}{p:Pos}(ha:PE c.X (.Name x p) (tVar i))(hb:JD c n b gb)(hs:PlainIx b:=by exact λ _ _=>rfl):JD c n (.Subscript (.Name x p) b pos) (gIxP i gb):=by
 obtain⟨tb,p2,q2⟩:=hb;refine⟨_,pe_ix ix_seq ha p2 hs,λ G F ow σ H L Rr=>?_⟩;unfold gIxP
 cases hL:L[i]? with
 | none=>trivial
 | some o =>
  cases o with
  | none=>trivial
  | some s =>
   obtain⟨v,hv,rs⟩:=Rr.sl i s hL;refine((q2 G F ow σ H L Rr).bind1 (t2:=λ y H2 Q=>rIx c.X.K v y H2 Q) λ e L1 u H1 F1 ow1 _ _ _ R1 b1=>?_).imp λ Q q=>⟨v,hv,q⟩
   cases hp:gPeek i L1 with
   | stuck=>trivial
   | err k L2 =>
    exfalso
    unfold gPeek at hp
    split at hp<;>cases hp
   | ok d L2 =>
    obtain⟨rfl,hb⟩:=aik R1 hv hp;rw[R.bind_ok]
    cases hf:dIx d e with
    | none=>trivial
    | some z =>
     obtain⟨w,hw,q⟩:=acG R1.exF hb b1 hf;exact(Post.val R1 hw).imp q
def cutD (xs:List D)(lo hi:Option Int):List D:=(xs.drop (HT.sIx xs.length 0 lo)).take (HT.sIx xs.length xs.length hi - HT.sIx xs.length 0 lo)
theorem DqA.cut {K:PySem.W.Frag}{F:Hp}{vs:List V}{ds:List D}(h:DqA K F vs ds)(lo hi:Option Int):DqA K F (cutV vs lo hi) (cutD ds lo hi):=by
 unfold cutV cutD
 rw[h.len]
 exact(h.drop _).take _
def dSl (d:D)(lo hi:Option Int):Option S:=match d with
 | .list xs=>some (.ol (cutD xs lo hi))
 | .str s=>if s.length<=sizeLine then some (.d (.str (cutS s lo hi))) else none
 | .tuple xs=>if HT.sIx xs.length 0 lo=0/\HT.sIx xs.length xs.length hi=xs.length then none else some (.d (.tuple (cutD xs lo hi)))
 | _=>none
def BO:PySem.W.Frag->Hp->Hp->(Addr->Option Path)->Option Int->Option Int->Prop:=λ _ _ _ _ x y=>y=x
def JO (c:Ct)(n:Bool)(e:Option Expr)(g:LS->R (Option Int)):Prop:=∃ t,PO c.X e t/\Jdg c n g BO t
def gNo:LS->R (Option Int):=λ L=>.ok none L
def asI:D->LS->R (Option Int)
 | .int i,L=>.ok (some i) L
 | _,_=>.stuck
def gSo (g:LS->R D):LS->R (Option Int):=λ L=>(g L).bind asI
theorem uR:JO c true none gNo:=⟨_,po_none,λ G F ow σ H L Rr=>Post.val (B:=BO c.X.K) Rr rfl⟩
theorem pH (h:JD c n a ga):JO c n (some a) (gSo ga):=by
 obtain⟨t,p,q⟩:=h;refine⟨_,po_some p,λ G F ow σ H L Rr=>(q G F ow σ H L Rr).bind1 (t2:=λ(x:V) H1 (Q:Option Int->Hp->Prop)=>∃ i,x=V.int i/\Q (some i) H1) λ d L1 v H1 F1 ow1 _ _ _ R1 b1=>?_⟩
 cases b1 with
 | int i=>exact(Post.val (a:=some i) (b:=some i) (B:=BO c.X.K) R1 rfl).imp λ Q q=>⟨i,rfl,q⟩
 | _=>trivial
def rSlAny (K:PySem.W.Frag):V->Option Int->Option Int->Hp->VK->Prop:=λ x lo hi H Q=>rSlL K x lo hi H Q∨rSlS x lo hi H Q∨rSlT K x lo hi H Q
theorem acH {G F H:Hp}{ow:Addr->Option Path}{σ:L2.St}{L:LS}{d:D}{v:V}{lo hi:Option Int}(Rr:c.Rl G F ow σ H L)(hb:BV c.X.K F H ow d v):Post c G true F H σ (ofO (dSl d lo hi) L) (BE c.ca c.X.K) (rSlAny c.X.K v lo hi H):=by
 have seq:∀ {l:Addr} {vs:List V} {ds:List D},v=.ref l->d=.list ds->SqL c.X.K H l vs->DqA c.X.K F vs ds->Post c G true F H σ (ofO (dSl d lo hi) L) (BE c.ca c.X.K) (rSlAny c.X.K v lo hi H):=λ {l vs ds} e1 e2 h1 h2=>by
  subst e1 e2
  exact(lQ Rr (h2.cut lo hi)).imp λ Q q=>.inl ⟨l,vs,rfl,h1,q⟩
 rcases hb with hb | ⟨l,vs,ds,rfl,rfl,h1,h2⟩
 ·cases hb with
  | lst h1 h2=>exact seq rfl rfl (.of (Rr.exF _ _ h1)) h2
  | str w =>
   show Post c G true F H σ (ofO (if w.length<=sizeLine then some (S.d (.str (cutS w lo hi))) else none) L) _ _
   by_cases hw:w.length<=sizeLine
   ·rw[if_pos hw];exact(Post.val (a:=S.d (.str (cutS w lo hi))) (B:=BE c.ca c.X.K) Rr (RS.d (.str _))).imp λ Q q=>.inr (.inl ⟨w,rfl,hw,q⟩)
   ·rw[if_neg hw]
    trivial
  | tup h1 h2 =>
   rename_i l vs ds
   show Post c G true F H σ (ofO (if HT.sIx ds.length 0 lo=0/\HT.sIx ds.length ds.length hi=ds.length then none else some (S.d (.tuple (cutD ds lo hi)))) L) _ _
   by_cases hw:HT.sIx ds.length 0 lo=0/\HT.sIx ds.length ds.length hi=ds.length
   ·rw[if_pos hw]
    trivial
   ·rw[if_neg hw];intro Q q;refine .inr (.inr ⟨l,vs,rfl,sqt_same Rr.exF h1,by rw[h2.len];exact hw,λ p hp=>?_⟩);obtain⟨e1,e,r'⟩:=Rr.newF (o:=.tup (cutV vs lo hi)) hp;exact q _ _ _ ow e1 (λ _=>e) r' (.d (.tup upd_same ((h2.cut lo hi).up e1)))
  | _=>trivial
 ·exact seq rfl rfl h1 h2
def gSl (ga:LS->R D)(lo hi:LS->R (Option Int)):LS->R S:=λ L=>(ga L).bind λ d L1=>(lo L1).bind λ l L2=>(hi L2).bind λ u L3=>ofO (dSl d l u) L3
variable {lo hi:Option Expr}{gl gh:LS->R (Option Int)}{p2:Pos}
theorem anm (ha:JD c n1 a ga)(hl:JO c n2 lo gl)(hh:JO c n3 hi gh):JE c (n1&&(n2&&n3)) (.Subscript a (.Slice lo hi none p2) pos) (gSl ga gl gh):=by
 obtain⟨ta,pa,qa⟩:=ha;obtain⟨tl,pl,ql⟩:=hl;obtain⟨th,ph,qh⟩:=hh;refine⟨_,pe_slice (sl_list.or (sl_str.or sl_tup)) pa pl ph,λ G F ow σ H L Rr=>?_⟩;refine(qa G F ow σ H L Rr).bind (t2:=λ v H1 Q=>tl σ H1 λ l H2=>th σ H2 λ u H3=>rSlAny c.X.K v l u H3 Q) λ d L1 v H1 F1 ow1 _ _ _ R1 b1=>?_;refine(ql G F1 ow1 σ H1 L1 R1).bind (t2:=λ l H2 Q=>th σ H2 λ u H3=>rSlAny c.X.K v l u H3 Q) λ l L2 l' H2 F2 ow2 _ e2 _ R2 b2=>?_;refine(qh G F2 ow2 σ H2 L2 R2).bind1 (t2:=λ u H3 Q=>rSlAny c.X.K v l' u H3 Q) λ u L3 u' H3 F3 ow3 _ e3 _ R3 b3=>?_
 cases b2
 cases b3
 exact acH R3 (.inl ((b1.up e2).up e3))
theorem mZ (ha:JV c n1 a ga)(hl:JO c true lo gl)(hh:JO c true hi gh):JE c n1 (.Subscript a (.Slice lo hi none p2) pos) (gSl ga gl gh):=by
 obtain⟨ta,pa,qa⟩:=ha;obtain⟨tl,pl,ql⟩:=hl;obtain⟨th,ph,qh⟩:=hh;refine⟨_,pe_slice (sl_list.or (sl_str.or sl_tup)) pa pl ph,λ G F ow σ H L Rr=>?_⟩;refine(qa G F ow σ H L Rr).bind1 (t2:=λ v H1 Q=>tl σ H1 λ l H2=>th σ H2 λ u H3=>rSlAny c.X.K v l u H3 Q) λ d L1 v H1 F1 ow1 _ _ _ R1 b1=>?_;refine(ql G F1 ow1 σ H1 L1 R1).bind1 (t2:=λ l H2 Q=>th σ H2 λ u H3=>rSlAny c.X.K v l u H3 Q) λ l L2 l' H2 F2 ow2 _ e2 s2 R2 b2=>?_;refine(qh G F2 ow2 σ H2 L2 R2).bind1 (t2:=λ u H3 Q=>rSlAny c.X.K v l' u H3 Q) λ u L3 u' H3 F3 ow3 _ e3 s3 R3 b3=>?_
 cases b2
 cases b3
 exact acH R3 (BV.up (BV.up (ow':=ow2) b1 e2 (s2 rfl)) e3 (s3 rfl))
def dLen:D->Option D
 | .list xs=>some (.int xs.length)
 | .tuple xs=>some (.int xs.length)
 | .str s=>if s.length<=sizeLine then some (.int s.length) else none
 | _=>none
theorem tE {α:Type}{ga:LS->R D}{B:PySem.W.Frag->Hp->Hp->(Addr->Option Path)->α->V->Prop}{r:List V->Hp->VK->Prop}{f:D->Option α}{ta:TE}(ha:Jdg c n ga BV ta)
  (lf:∀ {G F H:Hp} {ow:Addr->Option Path} {σ:L2.St} {L:LS} {d:D} {v:V},c.Rl G F ow σ H L->BV c.X.K F H ow d v->Post c G true F H σ (ofO (f d) L) (B c.X.K) (r [v] H)):Jdg c n (gUn f ga) B (tCB r (tCons ta tNil)) :=
 λ G F ow σ H L Rr=>(ha G F ow σ H L Rr).bind1 (t2:=λ v H1 Q=>r [v] H1 Q) λ d L1 v H1 F1 ow1 _ _ _ R1 b1=>lf R1 b1
theorem afn {id:String}{x:Str}{p:Pos}{r:List V->Hp->VK->Prop}{f:D->Option D}(hc:CallR c.X (.builtin id) r)(hg:Gl c.X x)(hm:c.X.mg x=none)(hv:bootBuiltins x=some (.builtin id))(ha:JV c n a ga)
  (lf:∀ {G F H:Hp} {ow:Addr->Option Path} {σ:L2.St} {L:LS} {d:D} {v:V},c.Rl G F ow σ H L->BV c.X.K F H ow d v->Post c G true F H σ (ofO (f d) L) (BD c.X.K) (r [v] H))
  (hn:x≠"__name__":=by decide) (hdb:(x == ("__debug__":Str))=false:=by decide) (hs:starEach [a] c.X.env=(false,eval a c.X.env)::starEach [] c.X.env:=by rfl) (hpl:(backTo pos (starEach [] c.X.env)).any (·.1)=false:=by rfl) :
  JD c n (.Call (.Name x p) [a] [] pos) (gUn f ga):=by
 obtain⟨ta,pa,qa⟩:=ha;exact⟨_,pe_callB hc hg hm hv (pa_cons pa pa_nil hs) hn hdb hs hpl,tE qa lf⟩
theorem abB {T:String}{x:Str}{p:Pos}{r:List V->Hp->VK->Prop}{f:D->Option S}(hc:CallR c.X (.type T) r)(hg:Gl c.X x)(hm:c.X.mg x=none)(hv:bootBuiltins x=some (.type T))(ha:JV c n a ga)
  (lf:∀ {G F H:Hp} {ow:Addr->Option Path} {σ:L2.St} {L:LS} {d:D} {v:V},c.Rl G F ow σ H L->BV c.X.K F H ow d v->Post c G true F H σ (ofO (f d) L) (BE c.ca c.X.K) (r [v] H))
  (hn:x≠"__name__":=by decide) (hdb:(x == ("__debug__":Str))=false:=by decide) (hs:starEach [a] c.X.env=(false,eval a c.X.env)::starEach [] c.X.env:=by rfl) (hpl:(backTo pos (starEach [] c.X.env)).any (·.1)=false:=by rfl) :
  JE c n (.Call (.Name x p) [a] [] pos) (gUn f ga):=by
 obtain⟨ta,pa,qa⟩:=ha;exact⟨_,pe_callTy hc hg hm hv (pa_cons pa pa_nil hs) hn hdb hs hpl,tE qa lf⟩
theorem afo {G F H:Hp}{ow:Addr->Option Path}{σ:L2.St}{L:LS}{d:D}{v:V}(Rr:c.Rl G F ow σ H L)(hb:BV c.X.K F H ow d v) :
  Post c G true F H σ (ofO (dLen d) L) (BD c.X.K) (λ Q=>∃ (x:V) (m:Nat),[v]=[x]/\LenV c.X.K x H m/\Q (.int m) H):=by
 have fin:∀ {m:Nat},LenV c.X.K v H m->Post c G true F H σ (.ok (.int m) L) (BD c.X.K) (λ Q=>∃ (x:V) (m:Nat),[v]=[x]/\LenV c.X.K x H m/\Q (.int m) H):=λ {m} h =>
  (Post.val (a:=PyData.int m) (b:=V.int m) (B:=BD c.X.K) Rr (.int _)).imp λ Q q=>⟨v,m,rfl,h,q⟩
 rcases hb with hb | ⟨l,vs,ds,rfl,rfl,h1,h2⟩
 ·cases hb with
  | lst h1 h2 =>
   have:=fin (.inl ⟨_,.of (Rr.exF _ _ h1),rfl⟩)
   rw[h2.len]at this;exact this
  | tup h1 h2 =>
   have:=fin (.inr ⟨_,sqt_same Rr.exF h1,rfl⟩)
   rw[h2.len]at this;exact this
  | str w =>
   show Post c G true F H σ (ofO (if w.length<=sizeLine then some (PyData.int w.length) else none) L) _ _
   by_cases hw:w.length<=sizeLine
   ·rw[if_pos hw];exact fin (m:=w.length) ⟨hw,rfl⟩
   ·rw[if_neg hw]
    trivial
  | _=>trivial
 ·have:=fin (.inl ⟨_,h1,rfl⟩)
  rw[h2.len]at this;exact this
theorem jm {p:Pos}(hg:Gl c.X "len") (hm:c.X.mg "len"=none) (ha:JV c n a ga) (hs:starEach [a] c.X.env=(false,eval a c.X.env)::starEach [] c.X.env:=by rfl):JD c n (.Call (.Name "len" p) [a] [] pos) (gUn dLen ga) :=
 afn call_len hg hm PySem.boot_len ha (λ Rr hb=>afo Rr hb) (by decide) (by decide) hs rfl
def dList:D->Option S
 | .list xs=>some (.ol xs)
 | .tuple xs=>some (.ol xs)
 | _=>none
theorem acI {G F H:Hp}{ow:Addr->Option Path}{σ:L2.St}{L:LS}{d:D}{v:V}(Rr:c.Rl G F ow σ H L)(hb:BV c.X.K F H ow d v) :
  Post c G true F H σ (ofO (dList d) L) (BE c.ca c.X.K) (λ Q=>∃ p ys,[v]=[V.ref p]/\(SqL c.X.K H p ys∨SqT c.X.K H p ys)/\∀ l,H l=none->Q (.ref l) (upd H l (.lst ys))):=by
 rcases hb with hb | ⟨l,vs,ds,rfl,rfl,h1,h2⟩
 ·cases hb with
  | lst h1 h2=>exact(lQ Rr h2).imp λ Q q=>⟨_,_,rfl,.inl (.of (Rr.exF _ _ h1)),q⟩
  | tup h1 h2=>exact(lQ Rr h2).imp λ Q q=>⟨_,_,rfl,.inr (sqt_same Rr.exF h1),q⟩
  | _=>trivial
 ·exact(lQ Rr h2).imp λ Q q=>⟨_,_,rfl,.inl h1,q⟩
theorem acJ {p:Pos}(hg:Gl c.X "list") (hm:c.X.mg "list"=none) (ha:JV c n a ga) (hs:starEach [a] c.X.env=(false,eval a c.X.env)::starEach [] c.X.env:=by rfl):JE c n (.Call (.Name "list" p) [a] [] pos) (gUn dList ga) :=
 abB call_list_of hg hm (by decide +kernel) ha (λ Rr hb=>acI Rr hb) (by decide) (by decide) hs rfl
def dTy:D->String
 | .none=>"NoneType"
 | .bool _=>"bool"
 | .int _=>"int"
 | .str _=>"str"
 | .list _=>"list"
 | .tuple _=>"tuple"
 | .dict _=>"dict"
def isTy (T:String)(d:D):Option D:=(kitB (dTy d) T).map .bool
def gIsi (T:String)(ga:LS->R D):LS->R D:=gUn (isTy T) ga
theorem ano {K:PySem.W.Frag}{F H:Hp}{ow:Addr->Option Path}{d:D}{v:V}(s:Same F H)(hb:BV K F H ow d v):TyX K H v (.type (dTy d)):=by
 have lst:∀ {l:Addr} {vs:List V},SqL K H l vs->TyX K H (.ref l) (.type "list"):=λ {l vs} h=>by
  rcases h with (h | ⟨o,h⟩) | ⟨o,its,m,h,hc,_⟩
  ·exact .base (.lst h)
  ·exact .base (.frz h)
  ·exact .kList h hc
 rcases hb with hb | ⟨l,vs,ds,rfl,rfl,h1,h2⟩
 ·cases hb with
  | non=>exact .base .non
  | bl b=>exact .base (.bl b)
  | int b=>exact .base (.int b)
  | str b=>exact .base (.str b)
  | lst h1 h2=>exact lst (.of (s _ _ h1))
  | tup h1 h2 =>
   rcases sqt_same s h1 with (h | ⟨o,h⟩) | ⟨o,its,m,h,hc,_⟩
   ·exact .base (.tup h)
   ·exact .fTuple h
   ·exact .kTuple h hc
 ·exact lst h1
theorem j5 {T:String}{t:Str}{p p3:Pos}(hg:Gl c.X "isinstance") (hm:c.X.mg "isinstance"=none) (hgT:Gl c.X t) (hmT:c.X.mg t=none) (hvT:bootBuiltins t=some (.type T)) (ha:JV c n a ga) (hnT:t≠"__name__":=by decide) (hdT:(t == ("__debug__":Str))=false:=by decide)
  (hs:starEach [a,.Name t p3] c.X.env=(false,eval a c.X.env)::starEach [.Name t p3] c.X.env:=by rfl) (hs2:starEach [.Name t p3] c.X.env=(false,eval (.Name t p3) c.X.env)::starEach [] c.X.env:=by rfl) (hpl:(backTo pos (starEach [.Name t p3] c.X.env)).any (·.1)=false:=by rfl) :
  JD c n (.Call (.Name "isinstance" p) [a,.Name t p3] [] pos) (gIsi T ga):=by
 obtain⟨ta,pa,qa⟩:=ha;refine⟨_,pe_callB call_isi hg hm (by decide +kernel) (pa_cons pa (pa_cons (pe_bltn (v:=.ty T) hgT hmT hvT rfl hnT hdT) pa_nil hs2) hs) (by decide) (by decide) hs hpl,λ G F ow σ H L Rr=>?_⟩;refine(qa G F ow σ H L Rr).bind1 (t2:=λ v H1 Q=>rIsi c.X.K [v,.ty T] H1 Q) λ d L1 v H1 F1 ow1 _ _ _ R1 b1=>?_;unfold isTy
 cases hk:kitB (dTy d) T with
 | none=>trivial
 | some b=>exact(Post.val (a:=PyData.bool b) (b:=V.bl b) (B:=BD c.X.K) R1 (.bl _)).imp λ Q q=>⟨v,.ty T,_,_,b,rfl,.ty T,ano R1.exF b1,kit_ty hk,q⟩
def strsOf:List D->Option (List Str)
 | []=>some []
 | .str x::r=>(strsOf r).map (x::·)
 | _::_=>none
theorem tG {K:PySem.W.Frag}{F:Hp}:∀ {ds:List D} {vs:List V} {ys:List Str},DqA K F vs ds->strsOf ds=some ys->vs=ys.map V.str
 | [],_,_,.nil,h=>by
  cases h
  rfl
 | d::ds,_,_,.cons a b,h=>by
  cases a with
  | str x =>
   obtain⟨zs,h1,rfl⟩:=Option.map_eq_some_iff.mp (show(strsOf ds).map (x::·)=some _ from h)
   rw[tG b h1]
   rfl
  | _=>cases h
def joinOk (a:Str)(ys:List Str):Bool:=decide ((ys.map (·.length)).sum+ys.length * a.length<=16777216)
def dJoin (d e:D):Option D:=match d,e with
 | .str a,.list ds=>(strsOf ds).bind λ ys=>if joinOk a ys then some (.str (Txt.join a ys)) else none
 | _,_=>none
def gTxt (k:Str->LS->R D):D->LS->R D
 | .str a,L=>k a L
 | _,_=>.stuck
def gJoin (ga gb:LS->R D):LS->R D:=λ L=>(ga L).bind (gTxt λ a L1=>(gb L1).bind λ e L2=>ofO (dJoin (.str a) e) L2)
theorem zJ {apos:Pos}(ha:JD c n1 a ga)(hb:JV c n2 b gb)(hs:starEach [b] c.X.env=[(false,eval b c.X.env)]:=by rfl)(hbase:attributeBase a "join" c.X.env (eval a c.X.env)=eval a c.X.env:=by rfl) (hline:(apos.endLine == pos.line)=true:=by rfl) :
  JD c (n1&&n2) (.Call (.Attribute a "join" apos) [b] [] pos) (gJoin ga gb):=by
 obtain⟨ta,pa,qa⟩:=ha;obtain⟨tb,pb,qb⟩:=hb;refine⟨_,pe_join pa pb hs hbase hline,λ G F ow σ H L Rr=>?_⟩;refine(qa G F ow σ H L Rr).bind (t2:=λ(v:V) H1 (Q:VK)=>(∃ a,v=V.str a)/\tb σ H1 λ y H2=>∃ a p,∃ ys:List Str,v=V.str a/\[y]=[V.ref p]/\(SqL c.X.K H2 p (ys.map V.str)∨SqT c.X.K H2 p (ys.map V.str))/\(ys.map (·.length)).sum+ys.length * a.length<=16777216/\Q (V.str (Txt.join a ys)) H2) λ d L1 v H1 F1 ow1 _ _ _ R1 b1=>?_
 cases b1 with
 | str sep =>
  refine Post.imp (t:=λ Q=>tb σ H1 λ y H2=>∃ a p,∃ ys:List Str,V.str sep=V.str a/\[y]=[V.ref p]/\(SqL c.X.K H2 p (ys.map V.str)∨SqT c.X.K H2 p (ys.map V.str))/\(ys.map (·.length)).sum+ys.length * a.length<=16777216/\Q (V.str (Txt.join a ys)) H2) ?_ λ Q q=>⟨⟨sep,rfl⟩,q⟩;refine(qb G F1 ow1 σ H1 L1 R1).bind1 (t2:=λ y H2 Q=>∃ a p,∃ ys:List Str,V.str sep=V.str a/\[y]=[V.ref p]/\(SqL c.X.K H2 p (ys.map V.str)∨SqT c.X.K H2 p (ys.map V.str))/\(ys.map (·.length)).sum+ys.length * a.length<=16777216/\Q (V.str (Txt.join a ys)) H2) λ e L2 u H2 F2 ow2 _ e2 _ R2 b2=>?_
  cases hf:dJoin (.str sep) e with
  | none=>trivial
  | some z =>
   cases e with
   | list ds =>
    obtain⟨ys,h1,h2⟩:=Option.bind_eq_some_iff.mp (show(strsOf ds).bind (λ ys=>if joinOk sep ys then some (PyData.str (Txt.join sep ys)) else none)=some z from hf)
    by_cases hj:joinOk sep ys=true
    ·rw[if_pos hj]at h2
     cases h2
     have hl:∃ p,u=.ref p/\SqL c.X.K H2 p (ys.map V.str):=by
      rcases b2 with b2 | ⟨l,vs,ds',rfl,e1,q1,q2⟩
      ·cases b2 with
       | lst q1 q2=>exact⟨_,rfl,by rw[←tG q2 h1];exact .of (R2.exF _ _ q1)⟩
      ·cases e1
       exact⟨_,rfl,by rw[←tG q2 h1];exact q1⟩
     obtain⟨p,rfl,hl⟩:=hl;exact(Post.val (a:=PyData.str (Txt.join sep ys)) (B:=BD c.X.K) R2 (Dq.str _)).imp λ Q q=>⟨sep,p,ys,rfl,rfl,.inl hl,of_decide_eq_true hj,q⟩
    ·rw[if_neg hj]at h2
     cases h2
   | _=>cases hf
 | _=>trivial
end
inductive O where
 | nx
 | rt (s:S)
 | bk
 | ct
def Fit (c:Ct)(G F:Hp)(r:R O)(E:Ends):Prop:=match r with
 | .ok .nx L=>∀ σ' H' F' ow',Same F F'->c.Rl G F' ow' σ' H' L->E.nx σ' H'
 | .ok .bk L=>∀ σ' H' F' ow',Same F F'->c.Rl G F' ow' σ' H' L->E.bk σ' H'
 | .ok .ct L=>∀ σ' H' F' ow',Same F F'->c.Rl G F' ow' σ' H' L->E.ct σ' H'
 | .ok (.rt s) L=>∀ v σ' H' F' ow',Same F F'->c.Rl G F' ow' σ' H' L->RS c.X.K c.ca F' H' ow' [0] s v->E.rt v H'
 | .err e L=>∀ σ' H' F' ow',Same F F'->c.Rl G F' ow' σ' H' L->c.W (.ref (c.ca e)) none σ' H'
 | .stuck=>False
theorem Fit.up {c:Ct}{G F F1:Hp}{r:R O}{E:Ends}(e:Same F F1)(h:Fit c G F r E):Fit c G F1 r E:=by
 cases r with
 | stuck=>exact h
 | err k L=>exact λ σ' H' F' ow' e'=>h σ' H' F' ow' (e.trans e')
 | ok o L=>cases o with
  | nx=>exact λ σ' H' F' ow' e'=>h σ' H' F' ow' (e.trans e')
  | bk=>exact λ σ' H' F' ow' e'=>h σ' H' F' ow' (e.trans e')
  | ct=>exact λ σ' H' F' ow' e'=>h σ' H' F' ow' (e.trans e')
  | rt s=>exact λ v σ' H' F' ow' e'=>h v σ' H' F' ow' (e.trans e')
def JdgS (c:Ct)(g:LS->R O)(t:TS):Prop:=∀ G F ow σ H L,c.Rl G F ow σ H L->∀ E:Ends,Fit c G F (g L) E->t E σ H
def JS (c:Ct)(s:Stmt)(g:LS->R O):Prop:=∃ t,PS c.X s t/\JdgS c g t
def JB (c:Ct)(s:List Stmt)(g:LS->R O):Prop:=∃ t,PSs c.X s t/\JdgS c g t
def Ct.free (c:Ct)(i:Nat):Prop:=c.pb[i]?≠some true
section
variable {c:Ct}{n n1 n2 n3:Bool}{a b:Expr}{ga gb:LS->R D}{pos:Pos}{st:Stmt}{rest:List Stmt}{g g1 g2:LS->R O}
def gNext:LS->R O:=λ L=>.ok .nx L
def gSeq (g1 g2:LS->R O):LS->R O:=λ L=>match g1 L with
 | .ok .nx L1=>g2 L1
 | r=>r
theorem cV:JB c [] gNext:=⟨_,pss_nil,λ G F ow σ H L Rr E h=>h σ H F ow (Same.refl F) Rr⟩
theorem aq (h1:JS c st g1)(h2:JB c rest g2):JB c (st::rest) (gSeq g1 g2):=by
 obtain⟨t,p,q⟩:=h1;obtain⟨t',p',q'⟩:=h2;refine⟨_,pss_cons p p',λ G F ow σ H L Rr E h=>?_⟩;refine q G F ow σ H L Rr { E with nx:=t' E } ?_;unfold gSeq at h
 cases hr:g1 L with
 | stuck=>rw[hr]at h;exact h
 | err k L1=>rw[hr]at h;exact h
 | ok o L1 =>
  rw[hr]at h
  cases o with
  | nx=>exact λ σ' H' F' ow' e R'=>q' G F' ow' σ' H' L1 R' E (Fit.up e h)
  | bk=>exact h
  | ct=>exact h
  | rt s=>exact h
theorem aA (h1:JS c st g1):JB c [st] g1:=by
 obtain⟨t,p,q⟩:=h1;exact⟨_,pss_one p,q⟩
theorem Post.use {α β:Type}{G F H:Hp}{σ:L2.St}{r:R α}{k:α->LS->R O}{B:Hp->Hp->(Addr->Option Path)->α->β->Prop}{t:(β->Hp->Prop)->Prop}{E:Ends}{Q:β->Hp->Prop}
  (h:Post c G n F H σ r B t) (f:Fit c G F (r.bind k) E)
  (hq:∀ a L1 b H1 F1 ow1,r=.ok a L1->Same F F1->c.Rl G F1 ow1 σ H1 L1->B F1 H1 ow1 a b->Fit c G F1 (k a L1) E->Q b H1):t Q:=by
 cases r with
 | stuck=>exact f.elim
 | err e L1=>exact h (λ H' F' ow' e' R'=>f σ H' F' ow' e' R') Q
 | ok a L1=>exact h Q λ b H1 F1 ow1 e1 _ R1 b1=>hq a L1 b H1 F1 ow1 rfl e1 R1 b1 (Fit.up e1 f)
def gDrop {α:Type}(g:LS->R α):LS->R O:=λ L=>(g L).bind λ _ L1=>.ok .nx L1
theorem tH {g:LS->R S}(h:JE c n a g)(hs:swapsWith a none pos.line c.X.env=pure false:=by rfl):JS c (.Expr a pos) (gDrop g):=by
 obtain⟨t,p,q⟩:=h;refine⟨_,ps_expr p hs,λ G F ow σ H L Rr E f=>?_⟩;exact(q G F ow σ H L Rr).use f λ s L1 v H1 F1 ow1 _ _ R1 _ f1=>f1 σ H1 F1 ow1 (Same.refl F1) R1
def gRet (g:LS->R S):LS->R O:=λ L=>(g L).bind λ s L1=>.ok (.rt s) L1
theorem bx {g:LS->R S}(h:JE c n a g):JS c (.Return (some a) pos) (gRet g):=by
 obtain⟨t,p,q⟩:=h;refine⟨_,ps_ret p,λ G F ow σ H L Rr E f=>?_⟩;exact(q G F ow σ H L Rr).use f λ s L1 v H1 F1 ow1 _ _ R1 b1 f1=>f1 v σ H1 F1 ow1 (Same.refl F1) R1 b1
def gRetN:LS->R O:=λ L=>.ok (.rt (.d .none)) L
def gIf (t:LS->R Bool)(x y:LS->R O):LS->R O:=λ L=>(t L).bind λ b L1=>if b=true then x L1 else y L1
theorem fX {e:Expr}{xs ys:List Stmt}{t:LS->R Bool}(ht:JT c n e t)(hx:JB c xs g1)(hy:JB c ys g2):JS c (.If e xs ys pos) (gIf t g1 g2):=by
 obtain⟨t0,p0,q0⟩:=ht;obtain⟨t1,p1,q1⟩:=hx;obtain⟨t2,p2,q2⟩:=hy;refine⟨_,ps_if p0 p1 p2,λ G F ow σ H L Rr E f=>?_⟩;refine(q0 G F ow σ H L Rr).use f λ b L1 b' H1 F1 ow1 _ _ R1 b1 f1=>?_
 cases b1
 cases b with
 | true=>exact q1 G F1 ow1 σ H1 L1 R1 E f1
 | false=>exact q2 G F1 ow1 σ H1 L1 R1 E f1
section
variable {G F H:Hp}{ow:Addr->Option Path}{σ:L2.St}{L:LS}
theorem zK {i:Nat}{v:Option V}(Rr:c.Rl G F ow σ H L)(hp:c.free i):∀ (k:Nat) (u:V),(pinOf c.pb c.v0)[k]?=some (some u)->(σ.set i v)[k]?=some (some u):=λ k u h=>by
 have hk:i≠k:=λ z=>by
  subst z
  exact hp (jZ h).1
 rw[List.getElem?_set_ne hk];exact Rr.pin k u h
theorem Rl.store {i:Nat}{s:S}{v:V}(Rr:c.Rl G F ow σ H L)(rs:RS c.X.K c.ca F H ow [0] s v)(hp:c.free i):c.Rl G F (reroot ow 0 (i+1)) (σ.set i (some v)) H (L.set i (some s)):=by
 refine Rr.moved (by rw[List.length_set,List.length_set];exact Rr.len) (λ k s' h=>?_) (zK Rr hp)
 have hlt:k < σ.length:=by
  have:=(List.getElem?_eq_some_iff.mp h).1
  rw[List.length_set]at this;rw[←Rr.len];exact this
 rcases gY h with ⟨rfl,hs⟩ | ⟨hk,hs⟩
 ·cases Option.some.inj hs
  exact .inr ⟨v,by rw[List.getElem?_set];simp[hlt],rs.go (Same.refl F) mY⟩
 ·exact .inl ⟨hs,List.getElem?_set_ne hk,by omega⟩
theorem Rl.storeD {i:Nat}{d:D}{v:V}(Rr:c.Rl G F ow σ H L)(q:Dq c.X.K F v d)(hp:c.free i):c.Rl G F ow (σ.set i (some v)) H (L.set i (some (.d d))):=by
 refine⟨Rr.exF,Rr.exG,Rr.dF,Rr.dG,by rw[List.length_set,List.length_set];exact Rr.len,λ k s' h=>?_,zK Rr hp,Rr.exB,Rr.dB⟩
 have hlt:k < σ.length:=by
  have:=(List.getElem?_eq_some_iff.mp h).1
  rw[List.length_set]at this;rw[←Rr.len];exact this
 rcases gY h with ⟨rfl,hs⟩ | ⟨hk,hs⟩
 ·cases Option.some.inj hs
  exact⟨v,by rw[List.getElem?_set];simp[hlt],RT.of (.d q)⟩
 ·obtain⟨u,h1,h2⟩:=Rr.sl k s' hs;exact⟨u,(List.getElem?_set_ne hk).trans h1,h2⟩
theorem Rl.put {i:Nat}{l:Addr}{o:HO}{q:Path}{s:S}(Rr:c.Rl G F ow σ H L)(ho:ow l=some ((i+1)::q))(new:∃ v,σ[i]?=some (some v)/\RS c.X.K c.ca F (upd H l o) ow [i+1] s v)(hk:¬ kT o:=by first | exact kT_lst | exact kT_dK | exact kT_dT | exact kT_ins):c.Rl G F ow σ (upd H l o) (L.set i (some s)):=by
 obtain⟨f0,g0,h0⟩:=Rr.dF l _ ho;refine⟨λ a u h=>?_,λ a u h=>?_,λ a p h=>?_,Rr.dG,by rw[List.length_set];exact Rr.len,λ k s' h=>?_,Rr.pin,λ a u h=>?_,Rr.dB⟩
 ·rw[upd_ne (ne_of_none h f0)];exact Rr.exF a u h
 ·rw[upd_ne (ne_of_none h g0)];exact Rr.exG a u h
 ·obtain⟨x,y,z⟩:=Rr.dF a p h;refine⟨x,y,?_⟩
  by_cases e:a=l
  ·subst e
   rw[upd_same];exact .of hk
  ·rw[upd_ne e];exact z
 ·rcases gY h with ⟨rfl,hs⟩ | ⟨hk,hs⟩
  ·cases Option.some.inj hs
   obtain⟨v,w1,w2⟩:=new;exact⟨v,w1,RT.of w2⟩
  ·obtain⟨u,h1,h2⟩:=Rr.sl k s' hs;refine⟨u,h1,h2.go (Same.refl F) λ a w e=>⟨upd_ne λ z=>?_,e⟩⟩
   subst z
   rw[ho]at e
   injection e with e
   injection e with e _
   omega
 ·rw[upd_ne (ne_of_none h (Rr.dB l _ ho))];exact Rr.exB a u h
end
def gAsg (i:Nat)(g:LS->R S):LS->R O:=λ L=>(g L).bind λ s L1=>.ok .nx (L1.set i (some s))
theorem aaQ {i:Nat}{g:LS->R S}{t:TE}(hp:c.free i)(q:Jdg c n g (BE c.ca) t):JdgS c (gAsg i g) (tAsg t (L2.gName i)):=λ G F ow σ H L Rr E f =>
 (q G F ow σ H L Rr).use f λ s L1 v H1 F1 ow1 _ _ R1 b1 f1=>f1 _ H1 F1 _ (Same.refl F1) (Rl.store R1 b1 hp)
theorem bz (i:Nat){x:Str}{g:LS->R S}{pos':Pos}(hN:c.X.N.Nodup)(hi:c.X.N[i]?=some x)(hx:Loc c.X.env.scope x)(hp:c.free i)(h:JE c n a g)(hs:swapsWith a (some (.Name x pos')) pos.line c.X.env=pure false:=by rfl)
  (hf:c.X.fn x=true∨c.X.env.scope.names.lookup x=some .local:=by first | exact .inl rfl | exact .inr rfl | assumption):JS c (.Assign [.Name x pos'] a pos) (gAsg i g):=by
 obtain⟨t,p,q⟩:=h;exact⟨_,ps_set hN hi hx p hs hf,aaQ hp q⟩
def OutOf (ws:List Nat)(σ σ':L2.St):Prop:=σ'.length=σ.length/\∀ k,k∉ws->σ'[k]?=σ[k]?
def JG (c:Ct)(tg:Expr)(ws:List Nat)(f:D->LS->Option LS):Prop:=∃ t,PG c.X tg t/\∀ G F ow σ H L d v L',c.Rl G F ow σ H L->Dq c.X.K F v d->f d L=some L'->∀ Q:L2.St->Hp->Prop,(∀ σ',OutOf ws σ σ'->c.Rl G F ow σ' H L'->Q σ' H)->t v σ H Q
def JGs (c:Ct)(tgs:List Expr)(ws:List Nat)(f:List D->LS->Option LS):Prop:=∃ t,PGs c.X tgs t/\∀ G F ow σ H L ds vs L',c.Rl G F ow σ H L->DqA c.X.K F vs ds->f ds L=some L'->∀ Q:L2.St->Hp->Prop,(∀ σ',OutOf ws σ σ'->c.Rl G F ow σ' H L'->Q σ' H)->t vs σ H Q
def fName (i:Nat):D->LS->Option LS:=λ d L=>some (L.set i (some (.d d)))
theorem fD (i:Nat){x:Str}(hp:c.free i)(h:PG c.X (.Name x pos) (L2.gName i)):JG c (.Name x pos) [i] (fName i) :=
 ⟨_,h,λ G F ow σ H L d v L' Rr q e Q k=>by
  cases e
  refine k _ ⟨List.length_set ..,λ k hk=>List.getElem?_set_ne λ z=>hk ?_⟩ (Rl.storeD Rr q hp);rw[z]
  exact List.mem_singleton.mpr rfl⟩
def fNil:List D->LS->Option LS
 | [],L=>some L
 | _::_,_=>none
def fCons (f:D->LS->Option LS)(r:List D->LS->Option LS):List D->LS->Option LS
 | d::ds,L=>(f d L).bind (r ds)
 | [],_=>none
theorem acK:JGs c [] [] fNil:=⟨_,pgs_nil,λ G F ow σ H L ds vs L' Rr q e Q k=>by
 cases q with
 | nil =>
  cases e
  exact⟨rfl,k σ ⟨rfl,λ _ _=>rfl⟩ Rr⟩
 | cons _ _=>cases e⟩
theorem rW {e:Expr}{es:List Expr}{ws vs:List Nat}{f:D->LS->Option LS}{r:List D->LS->Option LS}(h1:JG c e ws f)(h2:JGs c es vs r)(hs:(assignEach (e::es) c.X.env).map (·.2)=assign e c.X.env::(assignEach es c.X.env).map (·.2):=by rfl):JGs c (e::es) (ws++vs) (fCons f r):=by
 obtain⟨t,p,q⟩:=h1;obtain⟨t',p',q'⟩:=h2;refine⟨_,pgs_cons p p' hs,λ G F ow σ H L ds vs L' Rr hd e Q k=>?_⟩
 cases hd with
 | nil=>cases e
 | cons h1 h2 =>
  obtain⟨L1,e1,e2⟩:=Option.bind_eq_some_iff.mp e;refine⟨_,_,rfl,q G F ow σ H L _ _ L1 Rr h1 e1 _ λ σ' o1 R'=>q' G F ow σ' H L1 _ _ L' R' h2 e2 Q λ σ2 o2 R2=>k σ2 ⟨o2.1.trans o1.1,λ k hk=>?_⟩ R2⟩;rw[List.mem_append,not_or]at hk;exact(o2.2 k hk.2).trans (o1.2 k hk.1)
def fTup (m:Nat)(f:List D->LS->Option LS):D->LS->Option LS
 | .tuple ds,L=>if ds.length=m then f ds L else none
 | _,_=>none
theorem ahF {es:List Expr}{k m:Nat}{ws:List Nat}{f:List D->LS->Option LS}(hc:c.X.calm=true)(h:JGs c es ws f)(hm:(assignEach es c.X.env).length=m:=by rfl)(hst:(assignEach es c.X.env).findIdx? (·.1)=none:=by rfl):JG c (.Tuple es k pos) ws (fTup m f):=by
 obtain⟨t,p,q⟩:=h;refine⟨_,pg_tup hc p hm hst,λ G F ow σ H L d v L' Rr hd e Q k=>?_⟩
 cases hd with
 | tup h1 h2 =>
  rename_i l vs ds
  have e:(if ds.length=m then f ds L else none)=some L':=e
  by_cases hl:ds.length=m
  ·rw[if_pos hl]at e;exact⟨l,vs,rfl,sqt_same Rr.exF h1,h2.len.trans hl,q G F ow σ H L ds vs L' Rr h2 e Q k⟩
  ·rw[if_neg hl]at e
   cases e
 | _=>cases e
def gAsgT (f:D->LS->Option LS)(g:LS->R D):LS->R O:=λ L=>(g L).bind λ d L1=>match f d L1 with
 | some L2=>.ok .nx L2
 | none=>.stuck
def gOwnL (i:Nat)(k:List D->LS->R S):LS->R S:=λ L=>match L[i]? with
 | some (some (.ol ds))=>k ds L
 | _=>.stuck
theorem zL {G F H:Hp}{ow:Addr->Option Path}{σ:L2.St}{L:LS}{i:Nat}{ds:List D}(Rr:c.Rl G F ow σ H L)(h:L[i]?=some (some (.ol ds))) :
  ∃ l vs,σ[i]?=some (some (.ref l))/\H l=some (.lst vs)/\ow l=some [i+1]/\DqA c.X.K F vs ds:=by
 obtain⟨v,hv,rs⟩:=Rr.sl i _ h
 cases rs with
 | ol a b q=>exact⟨_,_,hv,a,b,q⟩
theorem Rl.putL {G F H:Hp}{ow:Addr->Option Path}{σ:L2.St}{L:LS}{i:Nat}{l:Addr}{vs:List V}{ds:List D}(Rr:c.Rl G F ow σ H L)(hv:σ[i]?=some (some (.ref l)))(ho:ow l=some [i+1])(q:DqA c.X.K F vs ds) :
  c.Rl G F ow σ (upd H l (.lst vs)) (L.set i (some (.ol ds))):=Rl.put Rr ho ⟨_,hv,.ol upd_same ho q⟩
def gApp (i:Nat)(g:LS->R D):LS->R S:=gOwnL i λ _ L=>(g L).bind λ d L1=>gOwnL i (λ ds L2=>if ds.length < sizeLine then .ok (.d .none) (L2.set i (some (.ol (ds++[d])))) else .stuck) L1
theorem m7 (i:Nat){x:Str}{p apos:Pos}(h:PE c.X (.Name x p) (tVar i))(ha:JD c n a ga)
  (hbase:attributeBase (.Name x p) "append" c.X.env (eval (.Name x p) c.X.env)=eval (.Name x p) c.X.env:=by rfl)
  (hfew:((backTo pos (starEach [a] c.X.env)).all (λ x=>!x.1)&&(backToKw pos (keywordEach [] c.X.env)).all (λ x=>x.1.isSome)&&decide ([a].length+([]:List Keyword).length+(if([]:List Keyword).isEmpty then 0 else 1) < 30))=true:=by rfl)
  (hline:(apos.endLine == pos.line)=true:=by rfl) (hs:starEach [a] c.X.env=(false,eval a c.X.env)::starEach [] c.X.env:=by rfl) (hplain:(backTo pos (starEach [] c.X.env)).any (·.1)=false:=by rfl) :
  JE c false (.Call (.Attribute (.Name x p) "append" apos) [a] [] pos) (gApp i ga):=by
 obtain⟨ta,pa,qa⟩:=ha;refine⟨_,pe_bm PySem.F.plainAttrs_list PySem.F.slot_list_append PySem.F.type_list_append mt_append h (pa_cons pa pa_nil hs) hbase hfew hline hs hplain,λ G F ow σ H L Rr=>?_⟩;unfold gApp gOwnL
 cases hL:L[i]? with
 | none=>trivial
 | some o =>
  cases o with
  | none=>trivial
  | some s =>
   cases s with
   | ol ds0 =>
    obtain⟨l,vs0,hv,h0,_,_⟩:=zL Rr hL
    have key:=(qa G F ow σ H L Rr).bind (n2:=false) (k:=λ d L1=>gOwnL i (λ ds L2=>if ds.length < sizeLine then R.ok (S.d .none) (L2.set i (some (.ol (ds++[d])))) else .stuck) L1) (B2:=BE c.ca c.X.K) (t2:=λ y H1 Q=>rAppend (.ref l) [y] H1 Q)
     λ d L1 v H1 F1 ow1 _ _ _ R1 b1=>by
      unfold gOwnL
      cases hL1:L1[i]? with
      | none=>trivial
      | some o =>
       cases o with
       | none=>trivial
       | some s =>
        cases s with
        | ol ds =>
         obtain⟨l',vs,hv',h1,h2,h3⟩:=zL R1 hL1;rw[hv]at hv'
         cases hv'
         refine Post.guard λ hz=>?_;intro Q q;exact⟨l,vs,v,rfl,rfl,h1,by rw[h3.len];exact hz,q _ _ F1 ow1 (Same.refl F1) (λ z=>nomatch z) (Rl.putL R1 hv h2 (h3.append (.one b1))) (.d .non)⟩
        | _=>trivial
    rw[Bool.and_false]at key;exact key.imp λ Q q=>⟨_,hv,.inl ⟨rfl,_,.of h0⟩,q⟩
   | _=>trivial
def setAt (i:Nat)(d:D):D->LS->R O
 | .int k,L=>(match L[i]? with
  | some (some (.ol ds))=>(match ixN ds.length k with
   | some j=>.ok .nx (L.set i (some (.ol (ds.set j d))))
   | none=>.stuck)
  | _=>.stuck)
 | _,_=>.stuck
def gSetIx (i:Nat)(gk g:LS->R D):LS->R O:=λ L=>(g L).bind λ d L1=>match L1[i]? with
 | some (some _)=>(gk L1).bind (setAt i d)
 | _=>.stuck
theorem pJ (i:Nat){x:Str}{k:Expr}{gk:LS->R D}{p p3:Pos}(h:PE c.X (.Name x p) (tVar i))(hk:JD c n1 k gk)(ha:JD c n2 a ga)
  (hb:∀ v,assign (.Subscript (.Name x p) k p3) c.X.env v=(do
   let ov ←holding [v] (eval (.Name x p) c.X.env)
   let iv ←holding [v,ov] (eval k c.X.env)
   standAt p3
   holding [v,ov,iv] (setItem ov iv v)
   release [v,ov,iv] []):=by intro _;rfl)
  (hs:swapsWithSole [.Subscript (.Name x p) k p3] a pos.line c.X.env=pure false:=by rfl) (hw:swappedStores [.Subscript (.Name x p) k p3] a c.X.env=pure none:=by rfl) (h1:(assignEach [.Subscript (.Name x p) k p3] c.X.env).map (·.2)=[assign (.Subscript (.Name x p) k p3) c.X.env]:=by rfl) :
  JS c (.Assign [.Subscript (.Name x p) k p3] a pos) (gSetIx i gk ga):=by
 obtain⟨ta,pa,qa⟩:=ha;obtain⟨tk,pk,qk⟩:=hk;refine⟨_,ps_asg pa (pg_sub h pk set_list hb) hs hw h1,λ G F ow σ H L Rr E ft=>?_⟩;refine(qa G F ow σ H L Rr).use ft λ d L1 v H1 F1 ow1 _ _ R1 b1 f1=>?_
 cases hL:L1[i]? with
 | none=>rw[hL]at f1;exact f1.elim
 | some o =>
  rw[hL]at f1
  cases o with
  | none=>exact f1.elim
  | some s =>
   obtain⟨u,hu,_⟩:=R1.sl i s hL;refine⟨u,hu,?_⟩;refine(qk G F1 ow1 σ H1 L1 R1).use f1 λ e L2 w H2 F2 ow2 _ e2 R2 b2 f2=>?_
   cases b2 with
   | int m =>
    have f2:Fit c G F2 (match L2[i]? with
     | some (some (.ol ds))=>(match ixN ds.length m with
      | some j=>R.ok .nx (L2.set i (some (.ol (ds.set j d))))
      | none=>.stuck)
     | _=>.stuck) E:=f2
    cases hL2:L2[i]? with
    | none=>rw[hL2]at f2;exact f2.elim
    | some o =>
     rw[hL2]at f2
     cases o with
     | none=>exact f2.elim
     | some s =>
      cases s with
      | ol ds =>
       obtain⟨l,vs,hv',h1',h2,h3⟩:=zL R2 hL2;rw[hu]at hv'
       cases hv'
       dsimp only at f2
       cases hj:ixN ds.length m with
       | none=>rw[hj]at f2;exact f2.elim
       | some j =>
        rw[hj]at f2;exact⟨l,vs,m,j,rfl,rfl,h1',by rw[h3.len];exact hj,f2 _ _ F2 ow2 (Same.refl F2) (Rl.putL R2 hu h2 (h3.set (b1.up e2) j))⟩
      | _=>exact f2.elim
   | _=>exact f2.elim
def ItOk (K:PySem.W.Frag)(B F:Hp)(ds:List D)(J:It):Prop:=∀ (i:Nat) (H:Hp),Same F H->Same B H->(ds.length<=i->J.stop i H)/\∀ d,ds[i]?=some d->J.go i H/\∀ x H',J.yld i H x H' ->
 (H'=H/\Dq K F x d)∨∃ p vs es,d=.tuple es/\x=.ref p/\H p=none/\H'=upd H p (.tup vs)/\DqA K F vs es
theorem ItOk.up {K:PySem.W.Frag}{B F F':Hp}{ds:List D}{J:It}(e:Same F F')(h:ItOk K B F ds J):ItOk K B F' ds J:=λ i H s sb=>by
 obtain⟨h1,h2⟩:=h i H (e.trans s) sb
 refine⟨h1,λ d hd=>?_⟩
 obtain⟨h3,h4⟩:=h2 d hd
 refine⟨h3,λ x H' y=>?_⟩
 rcases h4 x H' y with ⟨a,b⟩ | ⟨p,vs,es,a,b,c,d,q⟩
 ·exact .inl ⟨a,b.up e⟩
 ·exact .inr ⟨p,vs,es,a,b,c,d,q.up e⟩
def BI (B:Hp):PySem.W.Frag->Hp->Hp->(Addr->Option Path)->List D->It->Prop:=λ K F _ _ ds J=>ItOk K B F ds J
def JI (c:Ct)(n:Bool)(tg iter:Expr)(g:LS->R (List D)):Prop:=∃ wi,PI c.X tg iter wi/\Jdg c n g (BI c.B) wi
def asL:D->LS->R (List D)
 | .list ds,L=>.ok ds L
 | _,_=>.stuck
def asT:D->LS->R (List D)
 | .tuple ds,L=>.ok ds L
 | _,_=>.stuck
variable {tg:Expr}
def intsD (lo:Int)(m:Nat):List D:=(List.range m).map λ i=>PyData.int (lo+(i:Nat))
theorem pK (lo:Int)(m:Nat):(intsD lo m).length=m:=by
 unfold intsD;rw[List.length_map,List.length_range]
theorem ak7 {K:PySem.W.Frag}{B F:Hp}{lo:Int}{m:Nat}:ItOk K B F (intsD lo m) (Itr lo m):=λ i H s _=>by
 rw[pK]
 refine⟨λ h=>h,λ d hd=>?_⟩
 have hi:i < m:=by
  have:=(List.getElem?_eq_some_iff.mp hd).1
  rw[pK]at this
  exact this
 unfold intsD at hd
 rw[List.getElem?_map,List.getElem?_range hi]at hd
 cases hd
 exact⟨hi,λ x H' ⟨e1,e2⟩=>.inl ⟨e1,by rw[e2];exact .int _⟩⟩
def abC:List D->LS->R (List D)
 | [.int j],L=>if -(2 ^ 62)<=j/\j < 2 ^ 62 then .ok (intsD 0 j.toNat) L else .stuck
 | _,_=>.stuck
theorem m9 {gs:LS->R (List D)}{p:Pos}(hg:Gl c.X "range") (hm:c.X.mg "range"=none) (h:JA c n [a] gs) (hs:starEach [a] c.X.env=[(false,eval a c.X.env)]:=by rfl):JI c n tg (.Call (.Name "range" p) [a] [] pos) (λ L=>(gs L).bind abC):=by
 obtain⟨t,pa,q⟩:=h;refine⟨_,pi_range1 hg hm pa hs,λ G F ow σ H L Rr=>(q G F ow σ H L Rr).bind1 (t2:=λ vs H1 Q=>∃ j:Int,vs=[V.int j]/\-(2 ^ 62)<=j/\j < 2 ^ 62/\Q (Itr 0 j.toNat) H1) λ ds L1 vs H1 F1 ow1 _ _ _ R1 b1=>?_⟩
 cases b1 with
 | nil=>trivial
 | cons x y =>
  cases y with
  | cons _ _=>cases x<;>trivial
  | nil =>
   cases x with
   | int j=>exact Post.guard λ hj=>(Post.val (a:=intsD 0 j.toNat) (b:=Itr 0 j.toNat) (B:=BI c.B c.X.K) R1 ak7).imp λ Q q=>⟨j,rfl,hj.1,hj.2,q⟩
   | _=>trivial
def forGo (f:D->LS->Option LS)(g:LS->R O):List D->LS->R O
 | [],L=>.ok .nx L
 | d::ds,L=>match f d L with
  | none=>.stuck
  | some L1=>match g L1 with
   | .ok .nx L2=>forGo f g ds L2
   | .ok .ct L2=>forGo f g ds L2
   | .ok .bk L2=>.ok .nx L2
   | r=>r
def gFor (gi:LS->R (List D))(f:D->LS->Option LS)(g:LS->R O):LS->R O:=λ L=>(gi L).bind λ ds L1=>forGo f g ds L1
theorem oH {ws:List Nat}{iter:Expr}{body:List Stmt}{gi:LS->R (List D)}{f:D->LS->Option LS}(hp:PassesOwn (model c.X.prog c.X.w) c.X.A c.X.env c.X.xe)(hc:c.X.calm=true)(hi:JI c n tg iter gi)(hg:JG c tg ws f)(hb:JB c body g)
  (hs:∀ x,foldedSetIterable iter c.X.env x=pure x:=by intro _;rfl):JS c (.For tg iter body [] pos) (gFor gi f g):=by
 obtain⟨wi,p1,q1⟩:=hi;obtain⟨tt,p2,q2⟩:=hg;obtain⟨tb,p3,q3⟩:=hb;refine⟨_,ps_for hp hc p1 p2 p3 hs,λ G F ow σ H L Rr E ft=>?_⟩;refine(q1 G F ow σ H L Rr).use ft λ ds L1 J H1 F1 ow1 _ _ R1 b1 f1=>?_;refine⟨λ i m σ H=>m=ds.length - i/\i<=ds.length/\∃ F' ow' L',Same F1 F'/\c.Rl G F' ow' σ H L'/\Fit c G F' (forGo f g (ds.drop i) L') E,⟨ds.length,rfl,Nat.zero_le _,F1,ow1,L1,Same.refl F1,R1,f1⟩,λ i m σ2 H2 hW=>?_⟩;obtain⟨rfl,hi,F2,ow2,L2,e2,R2,f2⟩:=hW;obtain⟨k1,k2⟩:=(ItOk.up e2 b1) i H2 R2.exF R2.exB
 by_cases hlt:i < ds.length
 ·have hd:ds[i]?=some ds[i]:=List.getElem?_eq_getElem hlt
  obtain⟨k3,k4⟩:=k2 _ hd;rw[List.drop_eq_getElem_cons hlt]at f2;refine .inr ⟨k3,λ σ' H'=>∃ F' ow' L',Same F1 F'/\c.Rl G F' ow' σ' H' L'/\Fit c G F' (forGo f g (ds.drop (i+1)) L') E,λ σ' H' ⟨F',ow',L',w1,w2,w3⟩=>⟨ds.length - (i+1),by omega,rfl,hlt,F',ow',L',w1,w2,w3⟩,λ x H' y=>?_⟩
  have step:∀ {F3:Hp} {H3:Hp},Same F2 F3->c.Rl G F3 ow2 σ2 H3 L2->Dq c.X.K F3 x ds[i]->tt x σ2 H3 λ σ4 H4=>tb { nx:=λ σ' H'=>∃ F' ow' L',Same F1 F'/\c.Rl G F' ow' σ' H' L'/\Fit c G F' (forGo f g (ds.drop (i+1)) L') E,rt:=E.rt,bk:=E.nx,ct:=λ σ' H'=>∃ F' ow' L',Same F1 F'/\c.Rl G F' ow' σ' H' L'/\Fit c G F' (forGo f g (ds.drop (i+1)) L') E } σ4 H4:=λ {F3 H3} e3 R3 hx=>by
   have f3:Fit c G F3 (forGo f g (ds[i]::ds.drop (i+1)) L2) E:=Fit.up e3 f2
   unfold forGo at f3
   cases hf:f ds[i] L2 with
   | none=>rw[hf]at f3;exact f3.elim
   | some L3 =>
    rw[hf]at f3;refine q2 G F3 ow2 σ2 H3 L2 _ x L3 R3 hx hf _ λ σ4 _ R4=>?_;refine q3 G F3 ow2 σ4 H3 L3 R4 _ ?_
    dsimp only at f3
    cases hr:g L3 with
    | stuck=>rw[hr]at f3;exact f3.elim
    | err k L4=>rw[hr]at f3;exact f3
    | ok o L4 =>
     rw[hr]at f3
     cases o with
     | nx=>exact λ σ' H' F' ow' e' R'=>⟨F',ow',L4,(e2.trans e3).trans e',R',Fit.up e' f3⟩
     | ct=>exact λ σ' H' F' ow' e' R'=>⟨F',ow',L4,(e2.trans e3).trans e',R',Fit.up e' f3⟩
     | bk=>exact f3
     | rt s=>exact f3
  rcases k4 x H' y with ⟨rfl,hx⟩ | ⟨p,vs,es,he,rfl,hp',rfl,hq⟩
  ·exact step (Same.refl F2) R2 hx
  ·obtain⟨w1,w2,w3⟩:=R2.newF (o:=.tup vs) hp';rw[he]at step;exact step w1 w3 (.tup upd_same (hq.up w1))
 ·have hl:ds.length<=i:=Nat.le_of_not_lt hlt
  rw[List.drop_eq_nil_of_le hl]at f2;exact .inl ⟨k1 hl,f2 σ2 H2 F2 ow2 (Same.refl F2) R2⟩
end
def maskL:List Bool->LS->LS
 | b::bs,o::L=>(if b then o else none)::maskL bs L
 | _::bs,[]=>none::maskL bs []
 | [],_=>[]
def endOf (md:List Bool):R O->R S
 | .ok .nx L=>.ok (.d .none) (maskL md L)
 | .ok (.rt s) L=>.ok s (maskL md L)
 | .ok _ _=>.stuck
 | .err e L=>.err e (maskL md L)
 | .stuck=>.stuck
def runDef (md:List Bool)(N:Nat)(g:LS->R O):LS->R S:=λ ss=>endOf md (g (ss++List.replicate (N - ss.length) none))
def VSp (K:PySem.W.Frag)(ca:Nat->Addr)(md:List Bool)(m:LS->R S):Sp:=λ vs H Q E=>∃ B G F ow ss,ss.length=md.length/\Rl K ca B [] G F ow (vs.map some) H ss/\match m ss with
 | .ok s L=>∀ v H' F' ow',Same F F'->Rl K ca B [] G F' ow' (vs.map some) H' L->RS K ca F' H' ow' [0] s v->Q v H'
 | .err e L=>∀ H' F' ow',Same F F'->Rl K ca B [] G F' ow' (vs.map some) H' L->E (.ref (ca e)) none H'
 | .stuck=>False
theorem VSp.len {K:PySem.W.Frag}{ca:Nat->Addr}{md:List Bool}{m:LS->R S}{vs:List V}{H:Hp}{Q:VK}{E:XK}(h:VSp K ca md m vs H Q E):vs.length=md.length:=by
 obtain⟨B,G,F,ow,ss,h1,h2,_⟩:=h
 have:=h2.len
 rw[List.length_map]at this
 omega
theorem pM:∀ {md:List Bool} {L:LS} {i:Nat} {s:S},(maskL md L)[i]?=some (some s)->md[i]?=some true/\L[i]?=some (some s)
 | b::bs,o::L,0,s,h=>by
  have h':(if b then o else none)=some s:=Option.some.inj h
  cases b with
  | true=>exact⟨rfl,congrArg some h'⟩
  | false=>cases h'
 | b::bs,o::L,i+1,s,h=>pM (md:=bs) (L:=L) (i:=i) h
 | b::bs,[],0,s,h=>by cases h
 | b::bs,[],i+1,s,h=>by
  have:=(pM (md:=bs) (L:=[]) (i:=i) (s:=s) h).2
  cases this
 | [],_,_,_,h=>by cases h
theorem pN:∀ (md:List Bool) (L:LS),(maskL md L).length=md.length
 | [],L=>by cases L<;>rfl
 | b::bs,[]=>by
  show(maskL bs []).length+1=_;rw[pN bs []]<;>rfl
 | b::bs,o::L=>by
  show(maskL bs L).length+1=_;rw[pN bs L]<;>rfl
section
variable {P:Program}{w:World}{K:PySem.W.Frag}{mg:Str->Option Value}{base:Heap}{ca:Nat->Addr}
abbrev ctOf (P:Program)(w:World)(K:PySem.W.Frag)(mg:Str->Option Value)(base:Heap)(ca:Nat->Addr)(N:List Str)(qual:Str)(sc:Scope)(f:Addr)(cdv:Value)(A:Around)(outer:List Env)(s:Shared)(H:Hp)(E:XK)(md:List Bool)(vs:List V)(B:Hp:=λ _=>none):Ct :=
 ⟨cxOf (L2.CX P w) P w K mg base N qual sc f cdv A outer s H E,λ cls d _ H=>E cls d H,ca,md,vs,B⟩
theorem anp {x qual:Str}{st:Stmt}{f:Addr}{fd:FuncData}{N ps:List Str}{k:Nat}{md:List Bool}{g:LS->R O}(F:Fun K x qual st f fd)(S:FnScope N ps (defScope st))(hmd:md.length=ps.length)(hN:ps.length<=N.length)
  (hb:∀ (cdv:Value) (A:Around) (outer:List Env) (s:Shared) (H:Hp) (E:XK) (vs:List V),Room k (A.deeper (envOfC qual (defScope st) s.heap.objs.size f cdv))->∀ B:Hp,JB (ctOf P w K mg base ca N qual (defScope st) f cdv A outer s H E md vs B) (defBody st) g) :
  FnOk P w K mg base (L2.CX P w) (k+1) f fd ps (VSp K ca md (runDef md N.length g)):=by
 refine F.okX S (λ vs H Q E h=>h.len.trans hmd) (λ cdv A outer s H vs Q E hr h=>?_)
 have hlen:vs.length=md.length:=h.len
 obtain⟨B,G,F0,ow,ss,h1,h2,h3⟩:=h;obtain⟨t,ht,hq⟩:=hb cdv A outer s H E vs hr B;refine⟨t,ht,?_⟩
 have hlv:ss.length=vs.length:=by
  have:=h2.len
  rw[List.length_map]at this;exact this
 have pinv:∀ (i:Nat) (v:V),(pinOf md vs)[i]?=some (some v)->(vs.map some)[i]?=some (some v):=λ i v h=>by
  rw[List.getElem?_map,(jZ h).2]
  rfl
 have R0:Rl K ca B (pinOf md vs) G F0 ow (L2.start N vs) H (ss++List.replicate (N.length - ss.length) none):=by
  refine⟨h2.exF,h2.exG,h2.dF,h2.dG,?_,λ i s0 hi=>?_,λ i v hi=>?_,h2.exB,h2.dB⟩
  ·unfold L2.start;rw[List.length_append,List.length_append,List.length_replicate,List.length_replicate,List.length_map,hlv]
  ·have hlt:i < ss.length:=by
    by_cases z:i < ss.length
    ·exact z
    ·rw[List.getElem?_append_right (Nat.le_of_not_lt z),List.getElem?_replicate]at hi
     split at hi<;>cases hi
   rw[List.getElem?_append_left hlt]at hi;obtain⟨v,q1,q2⟩:=h2.sl i s0 hi;refine⟨v,?_,q2⟩;unfold L2.start;rw[List.getElem?_append_left (by rw[List.length_map];omega)];exact q1
  ·have q:=pinv i v hi
   unfold L2.start;rw[List.getElem?_append_left (List.getElem?_eq_some_iff.mp q).1];exact q
 have back:∀ {σ':L2.St} {H' F':Hp} {ow':Addr->Option Path} {L:LS},Rl K ca B (pinOf md vs) G F' ow' σ' H' L->Rl K ca B [] G F' ow' (vs.map some) H' (maskL md L):=λ {σ' H' F' ow' L} r=>by
  refine⟨r.exF,r.exG,r.dF,r.dG,?_,λ i s0 hi=>?_,(λ i v hi=>nomatch hi),r.exB,r.dB⟩
  ·rw[pN,List.length_map,hlen]
  ·obtain⟨m1,m2⟩:=pM hi;obtain⟨v,q1,q2⟩:=r.sl i s0 m2
   have hlt:i < vs.length:=by
    have:=(List.getElem?_eq_some_iff.mp m1).1
    omega
   have hpin:=r.pin i vs[i] (v4 m1 (List.getElem?_eq_getElem hlt))
   rw[hpin]at q1
   cases q1
   exact⟨_,by rw[List.getElem?_map,List.getElem?_eq_getElem hlt];rfl,q2⟩
 refine hq G F0 ow (L2.start N vs) H _ R0 _ ?_;unfold runDef at h3
 cases hr:g (ss++List.replicate (N.length - ss.length) none) with
 | stuck=>rw[hr]at h3;exact h3
 | err e L =>
  rw[hr]at h3;exact λ σ' H' F' ow' e' R'=>h3 H' F' ow' e' (back R')
 | ok o L =>
  rw[hr]at h3
  cases o with
  | nx=>exact λ σ' H' F' ow' e' R'=>h3 .non H' F' ow' e' (back R') (.d .non)
  | rt s0=>exact λ v σ' H' F' ow' e' R' rs=>h3 v H' F' ow' e' (back R') rs
  | bk=>exact h3.elim
  | ct=>exact h3.elim
end
inductive Ar where
 | d (g:LS->R D)
 | r (i:Nat)
inductive Av where
 | d (d:D)
 | r (i:Nat)
def evArgs:List Ar->LS->R (List Av)
 | [],L=>.ok [] L
 | .d g::as,L=>(g L).bind λ d L1=>(evArgs as L1).bind λ xs L2=>.ok (.d d::xs) L2
 | .r i::as,L=>match L[i]? with
  | some (some _)=>(evArgs as L).bind λ xs L2=>.ok (.r i::xs) L2
  | _=>.stuck
def AvOk (K:PySem.W.Frag)(σ:L2.St)(F:Hp):List Av->List V->Prop:=Paired λ x v=>match x with
 | .d d=>Dq K F v d
 | .r i=>σ[i]?=some (some v)
theorem AvOk.up {K:PySem.W.Frag}{σ:L2.St}{F F':Hp}{xs:List Av}{vs:List V}(e:Same F F')(h:AvOk K σ F xs vs):AvOk K σ F' xs vs:=Paired.mapP h λ x v z=>by
 cases x with
 | d d=>exact Dq.up e z
 | r i=>exact z
def allD:List Ar->Bool
 | []=>true
 | .d _::as=>allD as
 | .r _::_=>false
def refs:List Av->List Nat
 | []=>[]
 | .d _::xs=>refs xs
 | .r i::xs=>i::refs xs
def JAr (c:Ct)(n:Bool)(es:List Expr)(as:List Ar):Prop:=∃ t,PA c.X es t/\∀ G F ow σ H L,c.Rl G F ow σ H L->Post c G n F H σ (evArgs as L) (λ F' _ _ xs vs=>AvOk c.X.K σ F' xs vs/\(allD as=true->refs xs=[])) (t σ H)
section
variable {c:Ct}{n n1 n2 n3:Bool}{a b:Expr}{ga gb:LS->R D}{pos:Pos}{es:List Expr}{as:List Ar}
theorem aF:JAr c true [] []:=⟨_,pa_nil,λ G F ow σ H L Rr=>Post.val Rr ⟨.nil,λ _=>rfl⟩⟩
theorem bV (h1:JD c n1 a ga)(h2:JAr c n2 es as)(hs:starEach (a::es) c.X.env=(false,eval a c.X.env)::starEach es c.X.env:=by rfl):JAr c (n1&&n2) (a::es) (.d ga::as):=by
 obtain⟨t1,p1,q1⟩:=h1;obtain⟨t2,p2,q2⟩:=h2;refine⟨_,pa_cons p1 p2 hs,λ G F ow σ H L Rr=>?_⟩;refine(q1 G F ow σ H L Rr).bind λ d L1 v H1 F1 ow1 _ _ _ R1 b1=>?_;exact(q2 G F1 ow1 σ H1 L1 R1).bind1 (t2:=λ vs H2 Q=>Q (v::vs) H2) λ xs L2 vs H2 F2 ow2 _ e2 _ R2 b2=>Post.val R2 ⟨.cons (Dq.up e2 b1) b2.1,λ h=>b2.2 h⟩
theorem iJ (i:Nat){x:Str}{p:Pos}(h1:PE c.X (.Name x p) (tVar i))(h2:JAr c n es as)(hs:starEach (.Name x p::es) c.X.env=(false,eval (.Name x p) c.X.env)::starEach es c.X.env:=by rfl):JAr c n (.Name x p::es) (.r i::as):=by
 obtain⟨t2,p2,q2⟩:=h2;refine⟨_,pa_cons h1 p2 hs,λ G F ow σ H L Rr=>?_⟩;unfold evArgs
 cases hL:L[i]? with
 | none=>trivial
 | some o =>
  cases o with
  | none=>trivial
  | some s =>
   obtain⟨v,hv,_⟩:=Rr.sl i s hL;exact((q2 G F ow σ H L Rr).bind1 (t2:=λ vs H2 Q=>Q (v::vs) H2) λ xs L2 vs H2 F2 ow2 _ e2 _ R2 b2=>Post.val (B:=λ F' _ _ xs vs=>AvOk c.X.K σ F' xs vs/\(allD (.r i::as)=true->refs xs=[])) R2 ⟨.cons hv b2.1,λ h=>nomatch h⟩).imp λ Q q=>⟨v,hv,q⟩
def slotOf (L:LS):Av->Option S
 | .d d=>some (.d d)
 | .r i=>(L[i]?).join
def putBack:List Av->LS->LS->LS
 | .r i::xs,o::ss,L=>putBack xs ss (L.set i o)
 | .d _::xs,_::ss,L=>putBack xs ss L
 | _,_,L=>L
def callAt (m:LS->R S)(xs:List Av)(L:LS):R S:=match m (xs.map (slotOf L)) with
 | .ok s ss=>.ok s (putBack xs ss L)
 | .err e ss=>.err e (putBack xs ss L)
 | .stuck=>.stuck
def gCall (m:LS->R S)(as:List Ar):LS->R S:=λ L=>(evArgs as L).bind λ xs L1=>if(refs xs).Nodup then callAt m xs L1 else .stuck
def posR:List Av->Nat->Option Nat
 | [],_=>none
 | .r k::xs,i=>if k=i then some 0 else(posR xs i).map (·+1)
 | .d _::xs,i=>(posR xs i).map (·+1)
theorem v8:∀ {xs:List Av} {i j:Nat},posR xs i=some j->xs[j]?=some (Av.r i)
 | .r k::xs,i,j,h=>by
  have h:(if k=i then some 0 else(posR xs i).map (·+1))=some j:=h
  by_cases hk:k=i
  ·rw[if_pos hk]at h
   cases h
   rw[hk]
   rfl
  ·rw[if_neg hk]at h;obtain⟨l,h1,rfl⟩:=Option.map_eq_some_iff.mp h;exact v8 (xs:=xs) h1
 | .d _::xs,i,j,h=>by
  obtain⟨l,h1,rfl⟩:=Option.map_eq_some_iff.mp (show(posR xs i).map (·+1)=some j from h);exact v8 (xs:=xs) h1
 | [],_,_,h=>by cases h
theorem pO:∀ {xs:List Av} {i j:Nat},xs[j]?=some (.r i)->i∈refs xs
 | .r k::xs,i,0,h=>by
  cases h
  exact List.mem_cons_self
 | .r k::xs,i,j+1,h=>List.mem_cons_of_mem _ (pO (xs:=xs) h)
 | .d _::xs,i,0,h=>by cases h
 | .d _::xs,i,j+1,h=>pO (xs:=xs) (j:=j) h
 | [],_,_,h=>by cases h
theorem zM:∀ {xs:List Av} {i j:Nat},(refs xs).Nodup->xs[j]?=some (.r i)->posR xs i=some j
 | .r k::xs,i,0,_,h=>by
  cases h
  exact if_pos rfl
 | .r k::xs,i,j+1,nd,h=>by
  have h':xs[j]?=some (.r i):=h
  have hk:k≠i:=λ z=>by
   subst z
   exact(List.nodup_cons.mp nd).1 (pO h')
  show(if k=i then some 0 else(posR xs i).map (·+1))=_;rw[if_neg hk,zM (List.nodup_cons.mp nd).2 h']
  rfl
 | .d _::xs,i,0,_,h=>by cases h
 | .d _::xs,i,j+1,nd,h=>by
  show(posR xs i).map (·+1)=_;rw[zM (xs:=xs) nd (show xs[j]?=some (.r i) from h)]
  rfl
 | [],_,_,_,h=>by cases h
theorem oY:∀ (xs:List Av) (ss L:LS),(putBack xs ss L).length=L.length
 | .r i::xs,o::ss,L=>by
  show(putBack xs ss (L.set i o)).length=_;rw[oY xs ss,List.length_set]
 | .d _::xs,o::ss,L=>oY xs ss L
 | [],_,L=>rfl
 | .r _::_,[],L=>rfl
 | .d _::_,[],L=>rfl
theorem oZ:∀ {xs:List Av} {ss L:LS} {k:Nat} {s:S},(putBack xs ss L)[k]?=some (some s)->(∃ j:Nat,xs[j]?=some (Av.r k)/\ss[j]?=some (some s))∨(L[k]?=some (some s)/\(ss.length=xs.length->k∉refs xs))
 | .r i::xs,o::ss,L,k,s,h=>by
  have h:(putBack xs ss (L.set i o))[k]?=some (some s):=h
  rcases oZ h with ⟨j,h1,h2⟩ | ⟨h1,h2⟩
  ·exact .inl ⟨j+1,h1,h2⟩
  ·rcases gY h1 with ⟨rfl,h3⟩ | ⟨hk,h3⟩
   ·exact .inl ⟨0,rfl,congrArg some h3⟩
   ·refine .inr ⟨h3,λ hl hm=>?_⟩;rcases List.mem_cons.mp hm with z | z
    ·exact hk z.symm
    ·exact h2 (by simpa using hl) z
 | .d _::xs,o::ss,L,k,s,h=>by
  have h:(putBack xs ss L)[k]?=some (some s):=h
  rcases oZ h with ⟨j,h1,h2⟩ | ⟨h1,h2⟩
  ·exact .inl ⟨j+1,h1,h2⟩
  ·exact .inr ⟨h1,λ hl hm=>h2 (by simpa using hl) hm⟩
 | [],ss,L,k,s,h=>.inr ⟨h,λ _ hm=>by cases hm⟩
 | .r _::_,[],L,k,s,h=>.inr ⟨h,λ hl=>by simp at hl⟩
 | .d _::_,[],L,k,s,h=>.inr ⟨h,λ hl=>by simp at hl⟩
section
variable {G F H:Hp}{ow:Addr->Option Path}{σ:L2.St}{L:LS}{xs:List Av}{vs:List V}
def owIn (ow:Addr->Option Path)(xs:List Av):Addr->Option Path:=λ a=>match ow a with
 | some ((r+1)::q)=>(posR xs r).map λ j=>(j+1)::q
 | _=>none
def gIn (G F H:Hp)(oc:Addr->Option Path):Hp:=λ a=>if(oc a).isSome then none else if(F a).isSome then none else H a
def owOut (ow oc oc':Addr->Option Path)(xs:List Av):Addr->Option Path:=λ a=>match oc' a with
 | some (0::q)=>some (0::q)
 | some ((j+1)::q)=>(match xs[j]? with
  | some (.r i)=>some ((i+1)::q)
  | _=>none)
 | some []=>none
 | none=>if(oc a).isSome then none else ow a
theorem pP {a:Addr}{p:Path}(h:owIn ow xs a=some p):∃ r q j,ow a=some ((r+1)::q)/\posR xs r=some j/\p=(j+1)::q:=by
 unfold owIn at h
 split at h
 ·rename_i r q e
  obtain⟨j,h1,h2⟩:=Option.map_eq_some_iff.mp h;exact⟨r,q,j,e,h1,h2.symm⟩
 ·cases h
theorem ail {a:Addr}{r j:Nat}{q:Path}(h:ow a=some ((r+1)::q))(hp:posR xs r=some j):owIn ow xs a=some ((j+1)::q):=by
 unfold owIn;rw[h];show(posR xs r).map _=_;rw[hp]
 rfl
theorem aim {a:Addr}{r:Nat}{q:Path}(h:ow a=some ((r+1)::q))(hp:posR xs r=none):owIn ow xs a=none:=by
 unfold owIn;rw[h];show(posR xs r).map _=_;rw[hp]
 rfl
theorem afp {a:Addr}{o:HO}{oc:Addr->Option Path}(h:gIn G F H oc a=some o):oc a=none/\F a=none/\H a=some o:=by
 unfold gIn at h
 split at h
 ·cases h
 ·split at h
  ·cases h
  ·rename_i h1 h2
   refine⟨?_,?_,h⟩
   ·cases e:oc a with
    | none=>rfl
    | some p=>rw[e]at h1;exact absurd rfl h1
   ·cases e:F a with
    | none=>rfl
    | some p=>rw[e]at h2;exact absurd rfl h2
theorem acL {a:Addr}{oc:Addr->Option Path}(h1:oc a=none)(h2:F a=none):gIn G F H oc a=H a:=by
 unfold gIn;rw[h1,h2]
 rfl
theorem AvOk.get {K:PySem.W.Frag}:∀ {xs:List Av} {vs:List V} {j:Nat} {x:Av},AvOk K σ F xs vs->xs[j]?=some x->∃ v,vs[j]?=some v/\match x with
  | .d d=>Dq K F v d
  | .r i=>σ[i]?=some (some v)
 | _,_,_,_,.nil,h=>by cases h
 | _,_,0,x,.cons r _,h=>by
  cases h
  exact⟨_,rfl,r⟩
 | _::xs,_::vs,j+1,x,.cons _ t,h=>AvOk.get (xs:=xs) (vs:=vs) (j:=j) (x:=x) t h
theorem Rl.callIn (Rr:c.Rl G F ow σ H L)(av:AvOk c.X.K σ F xs vs)(nd:(refs xs).Nodup):Rl c.X.K c.ca c.B [] (gIn G F H (owIn ow xs)) F (owIn ow xs) (vs.map some) H (xs.map (slotOf L)):=by
 refine⟨Rr.exF,λ a o h=>(afp h).2.2,λ a p h=>?_,λ a o h=>.inl ?_,?_,λ j s h=>?_,(λ i v h=>nomatch h),Rr.exB,λ a p h=>?_⟩
 ·obtain⟨r,q,j,h1,h2,h3⟩:=pP h;obtain⟨x,y,z⟩:=Rr.dF a _ h1;refine⟨x,?_,z⟩;unfold gIn;rw[h]
  rfl
 ·unfold gIn
  split
  ·rfl
  ·rw[h]<;>rfl
 ·rw[List.length_map,List.length_map];exact Paired.length av
 ·rw[List.getElem?_map]at h;obtain⟨x,hx,hs⟩:=Option.map_eq_some_iff.mp h;obtain⟨v,hv,q⟩:=AvOk.get (j:=j) (x:=x) av hx;refine⟨v,by rw[List.getElem?_map,hv];rfl,?_⟩
  cases x with
  | d d =>
   cases hs
   exact RT.of (.d q)
  | r i =>
   have hs':(L[i]?).join=some s:=hs
   have hL:L[i]?=some (some s):=by
    cases e:L[i]? with
    | none=>rw[e]at hs';cases hs'
    | some o=>rw[e]at hs';exact congrArg some hs'
   obtain⟨u,hu,rs⟩:=Rr.sl i s hL
   have q':σ[i]?=some (some v):=q
   rw[hu]at q'
   cases q'
   exact rs.go (Same.refl F) λ a w e=>⟨rfl,ail e (zM nd hx)⟩
 ·obtain⟨r,q,j,h1,h2,h3⟩:=pP h;exact Rr.dB a _ h1
theorem Rl.callOut {F' H':Hp}{oc':Addr->Option Path}{ss:LS}(Rr:c.Rl G F ow σ H L)(av:AvOk c.X.K σ F xs vs)(nd:(refs xs).Nodup)(e:Same F F')
  (r':Rl c.X.K c.ca c.B [] (gIn G F H (owIn ow xs)) F' oc' (vs.map some) H' ss):c.Rl G F' (owOut ow (owIn ow xs) oc' xs) σ H' (putBack xs ss L)/\(refs xs=[]->Same H H') /\
   ∀ {s:S} {v:V},RS c.X.K c.ca F' H' oc' [0] s v->RS c.X.K c.ca F' H' (owOut ow (owIn ow xs) oc' xs) [0] s v:=by
 have hlen:ss.length=xs.length:=by
  have:=r'.len
  rw[List.length_map]at this;rw[this];exact(Paired.length av).symm
 have free:∀ {a:Addr} {p:Path},oc' a=some p->gIn G F H (owIn ow xs) a=none:=λ {a p} h=>(r'.dF a p h).2.1
 have gN:∀ {a:Addr} {o:HO},G a=some o->owIn ow xs a=none:=λ {a o} h=>by
  cases z:owIn ow xs a with
  | none=>rfl
  | some p =>
   obtain⟨r,q,j,w1,_,_⟩:=pP z
   have:=(Rr.dF a _ w1).2.1
   rw[h]at this
   cases this
 have gG:∀ {a:Addr} {o:HO},G a=some o->F a=none->gIn G F H (owIn ow xs) a=some o:=λ {a o} h h1=>by
  rw[acL (gN h) h1];exact Rr.exG a o h
 have gP:∀ {a:Addr} {o:HO},G a=some o->H' a=some o:=λ {a o} h=>by
  cases z:F a with
  | none=>exact r'.exG a o (gG h z)
  | some u =>
   have h1:=Rr.exF a u z
   rw[Rr.exG a o h]at h1;rw[h1];exact r'.exF a u (e a u z)
 have out_none:∀ {a:Addr} {p:Path},owOut ow (owIn ow xs) oc' xs a=some p->(∃ q,oc' a=some q)∨(oc' a=none/\owIn ow xs a=none/\ow a=some p):=λ {a p} h=>by
  cases z:oc' a with
  | some q=>exact .inl ⟨q,rfl⟩
  | none =>
   unfold owOut at h;rw[z]at h
   have h:(if(owIn ow xs a).isSome=true then none else ow a)=some p:=h
   split at h
   ·cases h
   ·rename_i h1
    refine .inr ⟨rfl,?_,h⟩
    cases y:owIn ow xs a with
    | none=>rfl
    | some w=>rw[y]at h1;exact absurd rfl h1
 -- what was not handed in stays
 have stay:∀ {a:Addr} {p:Path},ow a=some p->owIn ow xs a=none->H' a=H a/\owOut ow (owIn ow xs) oc' xs a=some p/\oc' a=none/\F' a=none:=λ {a p} h hn=>by
  obtain⟨x,y,z⟩:=Rr.dF a p h
  have hg:gIn G F H (owIn ow xs) a=H a:=acL hn x
  cases hH:H a with
  | none=>exact absurd hH z.1
  | some o =>
   rw[hH]at hg
   have h1:oc' a=none:=by
    cases w:oc' a with
    | none=>rfl
    | some q =>
     have:=free w
     rw[hg]at this
     cases this
   refine⟨r'.exG a o hg,?_,h1,?_⟩
   ·unfold owOut;rw[h1,hn];exact h
   ·cases w:F' a with
    | none=>rfl
    | some u =>
     have hu:H' a=some u:=r'.exF a u w
     rw[r'.exG a o hg]at hu
     cases hu
     rcases r'.dG a o w with this | this
     ·rw[hg]at this
      cases this
     ·exact absurd this (z.2 o hH)
 refine⟨⟨r'.exF,λ a o h=>gP h,λ a p h=>?_,λ a o h=>?_,by rw[oY];exact Rr.len,λ k s h=>?_,Rr.pin,r'.exB,λ a p h=>?_⟩,λ hr a o h=>?_,λ {s v} h=>?_⟩
 ·rcases out_none h with ⟨q,h1⟩ | ⟨h1,h2,h3⟩
  ·obtain⟨x,y,z⟩:=r'.dF a q h1;refine⟨x,?_,z⟩
   cases w:G a with
   | none=>rfl
   | some o =>
    cases zf:F a with
    | none =>
     have:=gG w zf
     rw[y]at this
     cases this
    | some u =>
     have:=e a u zf
     rw[x]at this
     cases this
  ·obtain⟨x,y,z⟩:=Rr.dF a p h3;obtain⟨w1,w2,w3,w4⟩:=stay h3 h2;exact⟨w4,y,by rw[w1];exact z⟩
 ·rcases r'.dG a o h with this | this
  ·cases w:G a with
   | none=>exact .inl rfl
   | some u =>
    cases zf:F a with
    | none =>
     have q:=gG w zf
     rw[this]at q
     cases q
    | some t =>
     have q:=e a t zf
     rw[h]at q
     cases q
     rcases Rr.dG a o zf with z | z
     ·rw[w]at z
      cases z
     ·exact .inr z
  ·exact .inr this
 ·rcases oZ h with ⟨j,h1,h2⟩ | ⟨h1,h2⟩
  ·obtain⟨v,hv,rs⟩:=r'.sl j s h2;obtain⟨u,hu,q⟩:=AvOk.get (j:=j) (x:=.r k) av h1;rw[List.getElem?_map,hu]at hv
   cases hv
   refine⟨v,q,rs.go (Same.refl F') λ a w e=>⟨rfl,?_⟩⟩;unfold owOut;rw[e]
   show(match xs[j]? with
    | some (.r i)=>some ((i+1)::w)
    | _=>none)=_
   rw[h1]
   rfl
  ·obtain⟨v,hv,rs⟩:=Rr.sl k s h1
   have hk:=h2 hlen
   have hp:posR xs k=none:=by
    cases z:posR xs k with
    | none=>rfl
    | some j=>exact absurd (pO (v8 z)) hk
   refine⟨v,hv,rs.go e λ a w z=>?_⟩;obtain⟨w1,w2,_,_⟩:=stay z (aim z hp);exact⟨w1,w2⟩
 ·rcases out_none h with ⟨q,h1⟩ | ⟨h1,h2,h3⟩
  ·exact r'.dB a q h1
  ·exact Rr.dB a p h3
 ·cases w:F a with
  | some u =>
   have:=Rr.exF a u w
   rw[h]at this
   cases this
   exact r'.exF a o (e a o w)
  | none =>
   have hn:owIn ow xs a=none:=by
    cases z:owIn ow xs a with
    | none=>rfl
    | some p =>
     obtain⟨r,q,j,_,w2,_⟩:=pP z
     have:=pO (v8 w2)
     rw[hr]at this
     cases this
   refine r'.exG a o ?_;rw[acL hn w];exact h
 ·refine h.go (Same.refl F') λ a w z=>⟨rfl,?_⟩;unfold owOut;rw[z]
  rfl
end
theorem ain {k:Nat}{f:Addr}{fd:FuncData}{ps:List Str}{md:List Bool}{m:LS->R S}{x:Str}{p:Pos}{e:Expr}(F:FnOk c.X.prog c.X.w c.X.K c.X.mg c.X.base (L2.CX c.X.prog c.X.w) k f fd ps (VSp c.X.K c.ca md m))(hr:Room k c.X.A)(tk:Takes c.X c.W)
  (hg:Gl c.X x) (hm:c.X.mg x=some (.ref f)) (hk:PySem.W.keepIn c.X.K (.ref f)=true) (hb:Binds c.X.K fd ps []) (ha:JAr c n (e::es) as) (hl:as.length=md.length:=by rfl)
  (hdb:(x == ("__debug__":Str))=false:=by decide) (he:starEach (e::es) c.X.env=(false,eval e c.X.env)::starEach es c.X.env:=by rfl) (hpl:(backTo pos (starEach es c.X.env)).any (·.1)=false:=by rfl) :
  JE c (n&&allD as) (.Call (.Name x p) (e::es) [] pos) (gCall m as):=by
 obtain⟨t,pa,qa⟩:=ha;refine⟨_,pe_callS F hr hg hm hk hb (λ σ=>passAt tk σ) pa hdb he hpl,λ G F0 ow σ H L Rr=>?_⟩;refine(qa G F0 ow σ H L Rr).bind (t2:=λ vs H1 Q=>VSp c.X.K c.ca md m vs H1 Q (WE c.W σ)) λ xs L1 vs H1 F1 ow1 hev e1 _ R1 b1=>?_;obtain⟨av,hn⟩:=b1;refine Post.guard λ nd=>?_
 have hxl:xs.length=md.length:=by
  rw[←hl]
  clear hl hn av R1 Rr
  have ev:∀ (as:List Ar) (L L1:LS) (xs:List Av),evArgs as L=.ok xs L1->xs.length=as.length:=by
   intro as
   induction as with
   | nil =>
    intro L L1 xs h
    cases h
    rfl
   | cons a as ih =>
    intro L L1 xs h
    cases a with
    | d g =>
     have h:((g L).bind λ d L1=>(evArgs as L1).bind λ xs L2=>.ok (.d d::xs) L2)=.ok xs L1:=h
     cases hg:g L with
     | stuck=>rw[hg]at h;cases h
     | err k L2=>rw[hg]at h;cases h
     | ok d L2 =>
      rw[hg,R.bind_ok]at h
      cases hg2:evArgs as L2 with
      | stuck=>rw[hg2]at h;cases h
      | err k L3=>rw[hg2]at h;cases h
      | ok ys L3 =>
       have:=ih L2 L3 ys hg2
       rw[hg2,R.bind_ok]at h
       cases h
       simp[this]
    | r i =>
     unfold evArgs at h
     split at h
     ·cases hg2:evArgs as L with
      | stuck=>rw[hg2]at h;cases h
      | err k L3=>rw[hg2]at h;cases h
      | ok ys L3 =>
       have:=ih L L3 ys hg2
       rw[hg2,R.bind_ok]at h
       cases h
       simp[this]
     ·cases h
  exact ev as L L1 xs hev
 have rin:=R1.callIn av nd
 unfold callAt
 cases hm':m (xs.map (slotOf L1)) with
 | stuck=>trivial
 | ok s ss =>
  intro Q q;refine⟨c.B,_,F1,_,xs.map (slotOf L1),by rw[List.length_map];exact hxl,rin,?_⟩;rw[hm'];intro v H' F' ow' e' r' rs;obtain⟨w1,w2,w3⟩:=R1.callOut av nd e' r';exact q v H' F' _ e' (λ h=>w2 (hn h)) w1 (w3 rs)
 | err er ss =>
  intro hw Q;refine⟨c.B,_,F1,_,xs.map (slotOf L1),by rw[List.length_map];exact hxl,rin,?_⟩;rw[hm'];intro H' F' ow' e' r';obtain⟨w1,w2,w3⟩:=R1.callOut av nd e' r';exact hw H' F' _ e' w1
end
def wipeL (L:LS):List Nat->LS
 | []=>L
 | v::vs=>(wipeL L vs).set v none
theorem xY (L:LS):∀ vs:List Nat,(wipeL L vs).length=L.length
 | []=>rfl
 | v::vs=>by
  show((wipeL L vs).set v none).length=_;rw[List.length_set,xY L vs]
theorem dJ {L:LS}{i:Nat}{x:S}:∀ {vs:List Nat},(wipeL L vs)[i]?=some (some x)->L[i]?=some (some x)/\i∉vs
 | [],h=>⟨h,by simp⟩
 | v::vs,h=>by
  rcases gY (show((wipeL L vs).set v none)[i]?=some (some x) from h) with ⟨_,h1⟩ | ⟨h1,h2⟩
  ·cases h1
  ·obtain⟨h3,h4⟩:=dJ h2;exact⟨h3,by simp only[List.mem_cons,not_or];exact⟨λ e=>h1 e.symm,h4⟩⟩
theorem eV {σ:L2.St}{i:Nat}:∀ {vs:List Nat},i∉vs->(wipe σ vs)[i]?=σ[i]?
 | [],_=>rfl
 | v::vs,h=>by
  simp only[List.mem_cons,not_or]at h
  show((wipe σ vs).set v none)[i]?=_;rw[List.getElem?_set_ne (λ e=>h.1 e.symm),eV h.2]
theorem zN {σ:L2.St}{i:Nat}:∀ {vs:List Nat},i∈vs->i < σ.length->(wipe σ vs)[i]?=some none
 | v::vs,h,hl=>by
  show((wipe σ vs).set v none)[i]?=_
  by_cases e:v=i
  ·subst e
   rw[List.getElem?_set_self (by rw[wipe_length];exact hl)]
  ·rw[List.getElem?_set_ne e];rcases List.mem_cons.mp h with z | z
   ·exact absurd z.symm e
   ·exact zN z hl
theorem nj {σ σ':L2.St}{vs ws:List Nat}(o:OutOf ws (wipe σ vs) σ')(hw:∀ k∈ws,k∈vs):wipe σ' vs=wipe σ vs:=by
 have hl:σ'.length=σ.length:=by rw[o.1,wipe_length]
 apply List.ext_getElem?
 intro k
 by_cases hk:k∈vs
 ·by_cases hlt:k < σ.length
  ·rw[zN hk (by omega),zN hk hlt]
  ·rw[List.getElem?_eq_none (by rw[wipe_length];omega),List.getElem?_eq_none (by rw[wipe_length];omega)]
 ·rw[eV hk,o.2 k λ z=>hk (hw k z)]
def lcGo (vs:List Nat)(f:D->LS->Option LS)(gt:LS->R Bool)(ge:LS->R D):List D->List D->LS->R S
 | [],acc,L=>.ok (.ol acc) L
 | d::ds,acc,L=>match f d L with
  | none=>.stuck
  | some L1=>match gt L1 with
   | .ok b L2=>if b=true then(match ge L2 with
     | .ok y L3=>if acc.length < sizeLine then lcGo vs f gt ge ds (acc++[y]) (wipeL L3 vs) else .stuck
     | _=>.stuck) else lcGo vs f gt ge ds acc (wipeL L2 vs)
   | _=>.stuck
theorem rY {vs:List Nat}{f:D->LS->Option LS}{gt:LS->R Bool}{ge:LS->R D}{k:Nat}{L':LS}:∀ (ds acc:List D) (L:LS),lcGo vs f gt ge ds acc L≠.err k L'
 | [],acc,L,h=>by cases h
 | d::ds,acc,L,h=>by
  unfold lcGo at h
  split at h
  ·cases h
  ·split at h
   ·split at h
    ·split at h
     ·split at h
      ·exact rY ds _ _ h
      ·cases h
     ·cases h
    ·exact rY ds _ _ h
   ·cases h
def gLc (vs:List Nat)(gi:LS->R (List D))(f:D->LS->Option LS)(gt:LS->R Bool)(ge:LS->R D):LS->R S:=λ L=>(gi L).bind λ ds L1=>lcGo vs f gt ge ds [] (wipeL L1 vs)
structure Bk where
 s:Shared
 H:Hp
 C:Addr
 cl:List (Str×Addr)
 fp:List Addr
abbrev Ct.low (c:Ct):Ct:={ c with W:=λ _ _ _ _=>False }
abbrev Ct.blk (c:Ct)(scope:Scope)(b:Bk):Ct:={ c with X:=c.X.blk b.s b.H scope (compEnvC scope b.cl b.C c.X.env) b.fp,W:=λ _ _ _ _=>False }
def JTs (c:Ct)(n:Bool)(ifs:List Expr)(g:LS->R Bool):Prop:=∃ t,PTs c.X ifs t/\Jdg c n g BB t
section
variable {c:Ct}{n n1 n2 n3:Bool}{scope:Scope}
def gYes:LS->R Bool:=λ L=>.ok true L
theorem qJ:JTs c true [] gYes:=⟨_,pts_nil,λ G F ow σ H L Rr=>Post.val (b:=true) (B:=BB c.X.K) Rr rfl⟩
theorem zP {α β:Type}{g:LS->R α}{B:PySem.W.Frag->Hp->Hp->(Addr->Option Path)->α->β->Prop}(T:Bk->L2.St->Hp->(β->Hp->Prop)->Prop)(h:∀ b,Jdg c.low n g B (T b)):Jdg c.low n g B (λ σ H Q=>∀ b,T b σ H Q):=by
 intro G F ow σ H L Rr
 have k:=λ b=>h b G F ow σ H L Rr
 cases hr:g L with
 | stuck=>trivial
 | ok a L1 =>
  intro Q q b
  have:=k b
  rw[hr]at this
  exact this Q q
 | err e L1 =>
  intro hw Q b
  have:=k b
  rw[hr]at this
  exact this hw Q
theorem ak8 {e:Expr}{g:LS->R D}(h:∀ b,JD (c.blk scope b) n e g):∃ t,(∀ b,PE (c.blk scope b).X e t)/\Jdg c.low n g BD t:=by
 refine⟨λ σ H Q=>∀ b,Classical.choose (h b) σ H Q,λ b=>⟨λ pins s σ H Q I hw=>(Classical.choose_spec (h b)).1.run pins s σ H Q I (hw b)⟩,?_⟩;exact zP _ λ b=>(Classical.choose_spec (h b)).2
theorem ahG {e:List Expr}{g:LS->R Bool}(h:∀ b,JTs (c.blk scope b) n e g):∃ t,(∀ b,PTs (c.blk scope b).X e t)/\Jdg c.low n g BB t:=by
 refine⟨λ σ H Q=>∀ b,Classical.choose (h b) σ H Q,λ b=>⟨λ pins s σ H Q I hw=>(Classical.choose_spec (h b)).1.run pins s σ H Q I (hw b)⟩,?_⟩;exact zP _ λ b=>(Classical.choose_spec (h b)).2
theorem ahH {tg:Expr}{ws:List Nat}{f:D->LS->Option LS}(h:∀ b,JG (c.blk scope b) tg ws f):∃ t,(∀ b,PG (c.blk scope b).X tg t) /\
  ∀ G F ow σ H L d v L',c.Rl G F ow σ H L->Dq c.X.K F v d->f d L=some L'->∀ Q:L2.St->Hp->Prop,(∀ σ',OutOf ws σ σ'->c.Rl G F ow σ' H L'->Q σ' H)->t v σ H Q:=by
 refine⟨λ v σ H Q=>∀ b,Classical.choose (h b) v σ H Q,λ b=>⟨λ pins s σ H v u Q I r hw=>(Classical.choose_spec (h b)).1.run pins s σ H v u Q I r (hw b)⟩,?_⟩;exact λ G F ow σ H L d v L' Rr q e Q k b=>(Classical.choose_spec (h b)).2 G F ow σ H L d v L' Rr q e Q k
section
variable {K:PySem.W.Frag}{ca:Nat->Addr}{bh:Hp}{pn:List (Option V)}{G F H:Hp}{ow:Addr->Option Path}{σ:L2.St}{L:LS}{vs:List Nat}{l:Addr}{o o':HO}
theorem Rl.wipe (r:Rl K ca bh pn G F ow σ H L)(hp:∀ (k:Nat) (v:V),pn[k]?=some (some v)->k∉vs):Rl K ca bh pn G F ow (L2.wipe σ vs) H (wipeL L vs) :=
 ⟨r.exF,r.exG,r.dF,r.dG,by rw[xY,wipe_length];exact r.len,λ i s h=>by
  obtain⟨h1,h2⟩:=dJ h;obtain⟨v,q1,q2⟩:=r.sl i s h1
  exact⟨v,(eV h2).trans q1,q2⟩,λ i v h=>(eV (hp i v h)).trans (r.pin i v h),r.exB,r.dB⟩
theorem Rl.aside (r:Rl K ca bh pn G F ow σ H L)(hl:H l=none):Rl K ca bh pn (upd G l o) F ow σ (upd H l o) L:=by
 have e:Same H (upd H l o):=dw hl
 have fN:F l=none:=r.exF.free hl
 refine⟨r.exF.trans e,λ a u h=>?_,λ a q h=>?_,λ a u h=>?_,r.len,λ i s h=>?_,r.pin,r.exB.trans e,r.dB⟩
 ·by_cases z:a=l
  ·subst z
   rw[upd_same]at h ⊢;exact h
  ·rw[upd_ne z]at h ⊢;exact r.exG a u h
 ·obtain⟨x,y,w⟩:=r.dF a q h
  have ha:a≠l:=jC w.1 hl
  exact⟨x,by rw[upd_ne ha];exact y,by rw[upd_ne ha];exact w⟩
 ·rw[upd_ne (ne_of_none h fN)];exact r.dG a u h
 ·obtain⟨v,q1,q2⟩:=r.sl i s h;exact⟨v,q1,q2.go (Same.refl F) λ a w h=>⟨upd_ne (jC (r.dF a _ h).2.2.1 hl),h⟩⟩
theorem acM {a:Addr}{u:HO}(h:upd G l o a=none):a≠l:=λ z=>by
 subst z
 rw[upd_same]at h
 cases h
theorem Rl.asideSet (r:Rl K ca bh pn (upd G l o) F ow σ H L)(hb:bh l=none)(ho:¬ kT o:=by exact kT_lst):Rl K ca bh pn (upd G l o') F ow σ (upd H l o') L:=by
 have fN:F l=none:=by
  cases z:F l with
  | none=>rfl
  | some u =>
   rcases r.dG l u z with this | this
   ·rw[upd_same]at this
    cases this
   ·have h1:=r.exF l u z
    rw[r.exG l o upd_same]at h1
    cases h1
    exact absurd this ho
 refine⟨λ a u h=>?_,λ a u h=>?_,λ a q h=>?_,λ a u h=>?_,r.len,λ i s h=>?_,r.pin,λ a u h=>?_,r.dB⟩
 ·rw[upd_ne (ne_of_none h fN)];exact r.exF a u h
 ·by_cases z:a=l
  ·subst z
   rw[upd_same]at h ⊢;exact h
  ·rw[upd_ne z]at h ⊢;exact r.exG a u (by rw[upd_ne z];exact h)
 ·obtain⟨x,y,w⟩:=r.dF a q h
  have ha:a≠l:=acM (u:=o) y
  rw[upd_ne ha]at y ⊢;exact⟨x,y,by rw[upd_ne ha];exact w⟩
 ·have ha:a≠l:=ne_of_none h fN
  have:=r.dG a u h
  rw[upd_ne ha]at this ⊢;exact this
 ·obtain⟨v,q1,q2⟩:=r.sl i s h;refine⟨v,q1,q2.go (Same.refl F) λ a w h=>⟨upd_ne ?_,h⟩⟩;exact acM (u:=o) (r.dF a _ h).2.1
 ·rw[upd_ne (ne_of_none h hb)];exact r.exB a u h
theorem Rl.asideOut {σ':L2.St}(r:Rl K ca bh pn (upd G l o) F ow σ H L)(hG:G l=none)(hb:bh l=none)(hlen:σ'.length=σ.length)(hs:∀ (k:Nat) (s:S),L[k]?=some (some s)->σ'[k]?=σ[k]?)
  (hp:∀ (k:Nat) (v:V),pn[k]?=some (some v)->σ'[k]?=some (some v)) (ho:¬ kT o:=by exact kT_lst):Rl K ca bh pn G F (onAt ow l [0]) σ' H L:=by
 have hl:H l=some o:=r.exG l o upd_same
 have fN:F l=none:=by
  cases z:F l with
  | none=>rfl
  | some u =>
   rcases r.dG l u z with this | this
   ·rw[upd_same]at this
    cases this
   ·have h1:=r.exF l u z
    rw[r.exG l o upd_same]at h1
    cases h1
    exact absurd this ho
 refine⟨r.exF,λ a u h=>?_,λ a q h=>?_,λ a u h=>?_,r.len.trans hlen.symm,λ i s h=>?_,hp,r.exB,λ a q h=>?_⟩
 ·have ha:a≠l:=ne_of_none h hG
  exact r.exG a u (by rw[upd_ne ha];exact h)
 ·by_cases z:a=l
  ·subst z
   exact⟨fN,hG,by rw[hl];exact .of ho⟩
  ·rw[iH z]at h;obtain⟨x,y,w⟩:=r.dF a q h;rw[upd_ne z]at y;exact⟨x,y,w⟩
 ·have ha:a≠l:=ne_of_none h fN
  have:=r.dG a u h
  rw[upd_ne ha]at this;exact this
 ·obtain⟨v,q1,q2⟩:=r.sl i s h;refine⟨v,(hs i s h).trans q1,q2.go (Same.refl F) λ a w h=>⟨rfl,?_⟩⟩
  have ha:a≠l:=acM (u:=o) (r.dF a _ h).2.1
  rw[iH ha];exact h
 ·by_cases z:a=l
  ·subst z
   exact hb
  ·rw[iH z]at h;exact r.dB a q h
end
theorem ak9 {gi:LS->R (List D)}{f:D->LS->Option LS}{gt:LS->R Bool}{ge:LS->R D}{wi:TI}{g:TG}{tt:TT}{te:TE}{vs ws:List Nat}(hi:Jdg c n1 gi (BI c.B) wi)
  (hg:∀ G F ow σ H L d v L',c.Rl G F ow σ H L->Dq c.X.K F v d->f d L=some L'->∀ Q:L2.St->Hp->Prop,(∀ σ',OutOf ws σ σ'->c.Rl G F ow σ' H L'->Q σ' H)->g v σ H Q) (hws:∀ k∈ws,k∈vs) (hp:∀ k∈vs,c.free k)
  (ht:Jdg c.low n2 gt BB tt) (he:Jdg c.low n3 ge BD te):Jdg c (n1&&(n2&&n3)) (gLc vs gi f gt ge) (BE c.ca) (tLc wi g tt te vs):=by
 have hpn:∀ (k:Nat) (v:V),(pinOf c.pb c.v0)[k]?=some (some v)->k∉vs:=λ k v h hk=>hp k hk (jZ h).1
 intro G F0 ow σ H0 L0 Rr
 refine(hi G F0 ow σ H0 L0 Rr).bind (t2:=λ J H1 (Q:VK)=>∀ D,H1 D=none->∃ W:Nat->Nat->Hp->Prop,(∃ m,W 0 m (upd H1 D (.lst [])))/\∀ i m H,W i m H ->
  (J.stop i H/\Q (V.ref D) H)∨(J.go i H/\∃ Nx:Hp->Prop,(∀ H',Nx H'->∃ m',m' < m/\W (i+1) m' H')/\∀ x H',J.yld i H x H'->g x (L2.wipe σ vs) H' λ σ2 H2=>L2.wipe σ2 vs=L2.wipe σ vs/\tt σ2 H2 λ b H3 =>
   if b=true then te σ2 H3 λ y H4=>∃ acc,H4 D=some (.lst acc)/\acc.length < sizeLine/\Nx (upd H4 D (.lst (acc++[y]))) else Nx H3)) λ ds L1 J H1 F1 ow1 _ e1 s1 R1 b1=>?_
 cases hr:lcGo vs f gt ge ds [] (wipeL L1 vs) with
 | stuck=>trivial
 | err k L2=>exact absurd hr (rY ds [] _)
 | ok s Lf =>
  intro Q q D hD
  have gD:G D=none:=R1.exG.free hD
  have hB:c.B D=none:=R1.exB.free hD
  refine⟨λ i m H=>m=ds.length - i/\i<=ds.length/\∃ F' ow' L' acc da,Same F1 F'/\((n2&&n3)=true->Same H1 H)/\c.Rl (upd G D (.lst acc)) F' ow' (L2.wipe σ vs) H L'/\DqA c.X.K F' acc da/\lcGo vs f gt ge (ds.drop i) da L'=.ok s Lf/\∀ (k:Nat) (s':S),L'[k]?=some (some s')->k∉vs,
   ⟨ds.length,rfl,Nat.zero_le _,F1,ow1,wipeL L1 vs,[],[],Same.refl F1,λ _=>dw hD,(R1.wipe hpn).aside hD,.nil,hr,λ k s' h=>(dJ h).2⟩,?_⟩
  rintro i m H ⟨rfl,hi',F2,ow2,LB,acc,da,e2,s2,R2,hacc,hgo,hno⟩;obtain⟨k1,k2⟩:=(ItOk.up e2 b1) i H R2.exF R2.exB
  by_cases hlt:i < ds.length
  ·obtain⟨k3,k4⟩:=k2 _ (List.getElem?_eq_getElem hlt);rw[List.drop_eq_getElem_cons hlt]at hgo
   refine .inr ⟨k3,λ H'=>∃ F' ow' L' acc da,Same F1 F'/\((n2&&n3)=true->Same H1 H')/\c.Rl (upd G D (.lst acc)) F' ow' (L2.wipe σ vs) H' L'/\DqA c.X.K F' acc da/\lcGo vs f gt ge (ds.drop (i+1)) da L'=.ok s Lf/\∀ (k:Nat) (s':S),L'[k]?=some (some s')->k∉vs,
    λ H' w=>⟨ds.length - (i+1),by omega,rfl,hlt,w⟩,λ x H' y=>?_⟩
   have step:∀ {F3 H3:Hp},Same F2 F3->Same H H3->c.Rl (upd G D (.lst acc)) F3 ow2 (L2.wipe σ vs) H3 LB->Dq c.X.K F3 x ds[i]->g x (L2.wipe σ vs) H3 λ σ2 H2=>L2.wipe σ2 vs=L2.wipe σ vs/\tt σ2 H2 λ b H3 =>
     if b=true then te σ2 H3 λ y H4=>∃ acc,H4 D=some (.lst acc)/\acc.length < sizeLine/\∃ F' ow' L' acc' da,Same F1 F'/\((n2&&n3)=true->Same H1 (upd H4 D (.lst (acc++[y]))))/\c.Rl (upd G D (.lst acc')) F' ow' (L2.wipe σ vs) (upd H4 D (.lst (acc++[y]))) L'/\DqA c.X.K F' acc' da/\lcGo vs f gt ge (ds.drop (i+1)) da L'=.ok s Lf/\∀ (k:Nat) (s':S),L'[k]?=some (some s')->k∉vs
     else ∃ F' ow' L' acc da,Same F1 F'/\((n2&&n3)=true->Same H1 H3)/\c.Rl (upd G D (.lst acc)) F' ow' (L2.wipe σ vs) H3 L'/\DqA c.X.K F' acc da/\lcGo vs f gt ge (ds.drop (i+1)) da L'=.ok s Lf/\∀ (k:Nat) (s':S),L'[k]?=some (some s')->k∉vs:=λ {F3 H3} e3 s3 R3 hx=>by
    unfold lcGo at hgo
    cases hf:f ds[i] LB with
    | none=>rw[hf]at hgo;cases hgo
    | some L3 =>
     rw[hf]at hgo;refine hg _ F3 ow2 _ H3 LB _ x L3 R3 hx hf _ λ σ2 o2 R4=>⟨nj o2 hws,?_⟩
     have wp:=nj o2 hws
     have hgo:(match gt L3 with
      | .ok b L2=>if b=true then(match ge L2 with
        | .ok y L3=>if da.length < sizeLine then lcGo vs f gt ge (ds.drop (i+1)) (da++[y]) (wipeL L3 vs) else .stuck
        | _=>.stuck) else lcGo vs f gt ge (ds.drop (i+1)) da (wipeL L2 vs)
      | _=>.stuck)=R.ok s Lf:=hgo
     have pt:=ht _ F3 ow2 σ2 H3 L3 R4
     cases hgt:gt L3 with
     | stuck=>rw[hgt]at hgo;cases hgo
     | err k L5=>rw[hgt]at hgo;cases hgo
     | ok b L5 =>
      rw[hgt]at hgo pt;refine pt _ λ b' H5 F5 ow5 e5 s5 R5 q5=>?_
      have q5:b'=b:=q5
      subst q5
      cases b' with
      | false =>
       refine⟨F5,ow5,wipeL L5 vs,acc,da,(e2.trans e3).trans e5,λ h=>((s2 h).trans s3).trans (s5 (and_of h).1),?_,(hacc.up e3).up e5,hgo,λ k s' h=>(dJ h).2⟩
       have:=R5.wipe (vs:=vs) hpn
       rw[wp]at this;exact this
      | true =>
       have hgo:(match ge L5 with
        | .ok y L3=>if da.length < sizeLine then lcGo vs f gt ge (ds.drop (i+1)) (da++[y]) (wipeL L3 vs) else .stuck
        | _=>.stuck)=R.ok s Lf:=hgo
       have pe:=he _ F5 ow5 σ2 H5 L5 R5
       cases hge:ge L5 with
       | stuck=>rw[hge]at hgo;cases hgo
       | err k L6=>rw[hge]at hgo;cases hgo
       | ok y L6 =>
        rw[hge]at hgo pe;refine pe _ λ v H6 F6 ow6 e6 s6 R6 q6=>?_
        have hgo:(if da.length < sizeLine then lcGo vs f gt ge (ds.drop (i+1)) (da++[y]) (wipeL L6 vs) else .stuck)=R.ok s Lf:=hgo
        by_cases hz:da.length < sizeLine
        ·rw[if_pos hz]at hgo
         have hH:H6 D=some (.lst acc):=R6.exG D _ upd_same
         have hacc6:=(((hacc.up e3).up e5).up e6)
         refine⟨acc,hH,by rw[hacc.len];exact hz,F6,ow6,wipeL L6 vs,acc++[v],da++[y],((e2.trans e3).trans e5).trans e6,λ h=>?_,?_,hacc6.append (.one q6),hgo,λ k s' h=>(dJ h).2⟩
         ·have:=(((s2 h).trans s3).trans (s5 (and_of h).1)).trans (s6 (and_of h).2)
          intro a u ha;rw[upd_ne (ne_of_none ha hD)];exact this a u ha
         ·have:=(R6.wipe (vs:=vs) hpn).asideSet (o':=.lst (acc++[v])) hB
          rw[wp]at this;exact this
        ·rw[if_neg hz]at hgo
         cases hgo
   rcases k4 x H' y with ⟨rfl,hx⟩ | ⟨p,ts,es,he',rfl,hp',rfl,hq⟩
   ·exact step (Same.refl F2) (Same.refl _) R2 hx
   ·obtain⟨w1,w2,w3⟩:=R2.newF (o:=.tup ts) hp';rw[he']at step;exact step w1 w2 w3 (.tup upd_same (hq.up w1))
  ·have hl:ds.length<=i:=Nat.le_of_not_lt hlt
   rw[List.drop_eq_nil_of_le hl]at hgo
   cases hgo
   refine .inl ⟨k1 hl,q _ H F2 _ e2 s2 (R2.asideOut (σ':=σ) gD hB (wipe_length σ vs).symm (λ k s' h=>(eV (hno k s' h)).symm) λ k v h=>?_) (.ol (R2.exG D _ upd_same) (jK ..) hacc)⟩;rw[←eV (σ:=σ) (hpn k v h)];exact R2.pin k v h
variable {elt tg iter:Expr}{ifs:List Expr}{own:List (Str×Nat)}{pos spos:Pos}{gi:LS->R (List D)}{f:D->LS->Option LS}{gt:LS->R Bool}{ge:LS->R D}{ws:List Nat}
theorem afq (hc:c.X.calm=true)(hN:c.X.N.Nodup)(hi:JI c n1 tg iter gi)(ok:BlkOk c.X.N c.X.env.scope scope own)(hg:∀ b,JG (c.blk scope b) tg ws f)(hws:∀ k∈ws,k∈own.map (·.2))(hp:∀ k∈own.map (·.2),c.free k)
  (ht:∀ b,JTs (c.blk scope b) n2 ifs gt) (he:∀ b,JD (c.blk scope b) n3 elt ge) (hs:∀ x,foldedSetIterable iter c.X.env x=pure x:=by intro _;rfl):JE c (n1&&(n2&&n3)) (.ListComp elt [⟨tg,iter,ifs,0⟩] scope pos) (gLc (own.map (·.2)) gi f gt ge):=by
 obtain⟨wi,p1,q1⟩:=hi;obtain⟨tg',p2,q2⟩:=ahH hg;obtain⟨tt,p3,q3⟩:=ahG ht;obtain⟨te,p4,q4⟩:=ak8 he;exact⟨_,pe_lc hc hN p1 ok (λ s H C cl fp=>p2 ⟨s,H,C,cl,fp⟩) (λ s H C cl fp=>p3 ⟨s,H,C,cl,fp⟩) (λ s H C cl fp=>p4 ⟨s,H,C,cl,fp⟩) hs,ak9 q1 q2 hws hp q3 q4⟩
end
section
variable {c:Ct}{pos:Pos}
theorem afr {st:Stmt}:JS c st (λ _=>.stuck):=⟨_,ps_never,λ G F ow σ H L Rr E f=>f.elim⟩
end
theorem BV.dp {K:PySem.W.Frag}{F H:Hp}{ow:Addr->Option Path}{d:D}{v:V}(s:Same F H)(h:BV K F H ow d v):Dp K H v d:=by
 rcases h with h | ⟨l,vs,ds,rfl,rfl,h1,h2⟩
 ·exact(h.up s).dp
 ·exact .lst h1 (DqA.dp ds vs (h2.up s))
def Leaf2V (K:PySem.W.Frag)(r:R2)(f:D->D->Option D):Prop :=
 ∀ (F H:Hp) (ow:Addr->Option Path) (x y:V) (d e z:D),Same F H->BV K F H ow d x->BV K F H ow e y->f d e=some z->∃ v,Dq K F v z/\∀ Q:VK,Q v H->r x y H Q
theorem sW.view {K:PySem.W.Frag}{r:R2}{f:D->D->Option D}(h:sW K r f)(h1:∀ ds e,f (.list ds) e=none)(h2:∀ d es,f d (.list es)=none):Leaf2V K r f:=by
 intro F H ow x y d e z s hx hy hf
 rcases hx with hx | ⟨l,vs,ds,rfl,rfl,_,_⟩
 ·rcases hy with hy | ⟨l,vs,ds,rfl,rfl,_,_⟩
  ·exact h F H x y d e z s hx hy hf
  ·rw[h2]at hf
   cases hf
 ·rw[h1]at hf
  cases hf
theorem xZ {d e:D}(h:scalD d e=true):(∀ ds,d≠.list ds)/\∀ ds,e≠.list ds:=by
 refine⟨λ ds z=>?_,λ ds z=>?_⟩
 ·subst z
  cases e<;>cases h
 ·subst z
  cases d<;>cases h
theorem afs {K:PySem.W.Frag}:Leaf2V K (λ x y H Q=>rEq x y H Q∨rEqD K x y H Q) dEq:=by
 intro F H ow x y d e z s hx hy hf
 unfold dEq at hf
 by_cases h:eqOk d e
 ·rw[if_pos h]at hf
  cases hf
  rcases h with h | h
  ·obtain⟨n1,n2⟩:=xZ h
   rcases hx with hx | ⟨l,vs,ds,_,e1,_⟩
   ·rcases hy with hy | ⟨l,vs,ds,_,e1,_⟩
    ·obtain⟨h1,h2⟩:=acD hx hy h
     rw[h2]
     exact⟨_,.bl _,λ Q q=>.inl ⟨h1,q⟩⟩
    ·exact absurd e1 (n2 ds)
   ·exact absurd e1 (n1 ds)
  ·exact⟨_,.bl _,λ Q q=>.inr ⟨d,e,hx.dp s,hy.dp s,h.1,h.2,q⟩⟩
 ·rw[if_neg h]at hf
  cases hf
theorem aft {K:PySem.W.Frag}:Leaf2V K (λ x y H Q=>rNe x y H Q∨rNeD K x y H Q) dNe:=by
 intro F H ow x y d e z s hx hy hf
 unfold dNe at hf
 by_cases h:eqOk d e
 ·rw[if_pos h]at hf
  cases hf
  rcases h with h | h
  ·obtain⟨n1,n2⟩:=xZ h
   rcases hx with hx | ⟨l,vs,ds,_,e1,_⟩
   ·rcases hy with hy | ⟨l,vs,ds,_,e1,_⟩
    ·obtain⟨h1,h2⟩:=acD hx hy h
     rw[h2]
     exact⟨_,.bl _,λ Q q=>.inl ⟨h1,q⟩⟩
    ·exact absurd e1 (n2 ds)
   ·exact absurd e1 (n1 ds)
  ·exact⟨_,.bl _,λ Q q=>.inr ⟨d,e,hx.dp s,hy.dp s,h.1,h.2,q⟩⟩
 ·rw[if_neg h]at hf
  cases hf
theorem afu {K:PySem.W.Frag}{F H:Hp}{ow:Addr->Option Path}{x y:V}{d e:D}{z:Bool}(s:Same F H)(hx:BV K F H ow d x)(hy:BV K F H ow e y)(hf:dInB d e=some z)(neg:Bool)(Q:VK)(q:Q (.bl (if neg then !z else z)) H) :
  (∃ (c:Nat) (w:Str),x=.str ⟨#[c]⟩/\y=.str w/\Q (.bl (if neg then !decide (c∈w.cps.toList) else decide (c∈w.cps.toList))) H) ∨
   (∃ d ds,Dp K H x d/\Dp K H y (.list ds)/\SeqAt.shaped d=true/\SeqAt.shaped (.list ds)=true/\Q (.bl (if neg then !ds.any (λ z=>PyData.eqv z d) else ds.any λ z=>PyData.eqv z d)) H)∨rIn K neg x y H Q:=by
 cases e with
 | list ds =>
  have hf:(if inOk d ds then some (ds.any λ z=>z.eqv d) else none)=some z:=hf
  by_cases h:inOk d ds
  ·rw[if_pos h]at hf
   cases hf
   rcases h with h | h
   ·rcases hx with hx | ⟨l,vs,ds',_,rfl,_⟩
    ·have hs:∃ l vs,y=.ref l/\SqL K H l vs/\DqA K F vs ds:=by
      rcases hy with hy | ⟨l,vs,ds',rfl,e1,h3,h4⟩
      ·cases hy with
       | lst a1 a2=>exact⟨_,_,rfl,.of (s _ _ a1),a2⟩
      ·cases e1
       exact⟨l,vs,rfl,h3,h4⟩
     obtain⟨l,vs,rfl,h3,h4⟩:=hs
     rw[←sY hx h.1 h4 h.2]at q
     exact .inr (.inr ⟨l,vs,rfl,.inl h3,sX hx h.1,pG h4 h.2,q⟩)
    ·cases h.1
   ·exact .inr (.inl ⟨d,ds,hx.dp s,hy.dp s,h.1,h.2,q⟩)
  ·rw[if_neg h]at hf
   cases hf
 | tuple ds =>
  rcases hy with hy | ⟨l,vs,ds,rfl,e,_,_⟩
  ·rcases hx with hx | ⟨l,vs,ds,rfl,rfl,_,_⟩
   ·exact acE s hx hy hf neg Q q
   ·cases hf
  ·cases e
 | str w =>
  rcases hy with hy | ⟨l,vs,ds,rfl,e,_,_⟩
  ·rcases hx with hx | ⟨l,vs,ds,rfl,rfl,_,_⟩
   ·exact acE s hx hy hf neg Q q
   ·cases hf
  ·cases e
 | _=>cases hf
theorem zQ {K:PySem.W.Frag}:Leaf2V K (acF K) dNotIn:=by
 intro F H ow x y d e z s hx hy hf
 obtain⟨b,hb,rfl⟩:=Option.map_eq_some_iff.mp hf
 exact⟨_,.bl (!b),λ Q q=>afu s hx hy hb true Q q⟩
theorem afv {K:PySem.W.Frag}:Leaf2V K (λ x y H Q=>(y=.non/\Q (.bl (decide (x=.non))) H)∨aid x y H Q) dIs:=by
 intro F H ow x y d e z s hx hy hf
 rcases hx with hx | ⟨l,vs,ds,rfl,rfl,_,_⟩
 ·rcases hy with hy | ⟨l,vs,ds,rfl,rfl,_,_⟩
  ·exact aie F H x y d e z s hx hy hf
  ·cases d<;>cases hf
 ·rcases hy with hy | ⟨l,vs,ds,rfl,rfl,_,_⟩
  ·cases hy<;>cases hf
   exact⟨_,.bl _,λ Q q=>.inl ⟨rfl,q⟩⟩
  ·cases hf
section
variable {c:Ct}{n n1 n2 n3:Bool}{a b:Expr}{ga gb:LS->R D}{pos:Pos}{k:Nat}
def CmpV (c:Ct)(op:CmpOp)(f:D->D->Option D):Prop:=∃ r:R2,OpR c.X (compareOp op) r/\Leaf2V c.X.K r f
theorem aaR {f:Int->Int->Bool}{g:Str->Str->Bool}(ds:List D)(e:D):dCmp f g (.list ds) e=none:=by cases e<;>rfl
theorem aaS {f:Int->Int->Bool}{g:Str->Str->Bool}(d:D)(es:List D):dCmp f g d (.list es)=none:=by cases d<;>rfl
theorem afw:CmpV c .Lt dLt:=⟨_,op_lt.or op_lt_str,anc.view aaR aaS⟩
theorem anq:CmpV c .LtE dLe:=⟨_,op_le.or op_le_str,anc.view aaR aaS⟩
theorem afx:CmpV c .Gt dGt:=⟨_,op_gt.or op_gt_str,anc.view aaR aaS⟩
theorem anr:CmpV c .GtE dGe:=⟨_,op_ge.or op_ge_str,anc.view aaR aaS⟩
theorem tK (hr:Room k c.X.A):CmpV c .Eq dEq:=⟨_,op_eq.or (op_eqD hr.units),afs⟩
theorem abD (hr:Room k c.X.A):CmpV c .NotEq dNe:=⟨_,op_ne.or (op_neD hr.units),aft⟩
theorem ala:CmpV c .Is dIs:=⟨_,op_isN.or afl,afv⟩
theorem v9 (hr:Room k c.X.A):CmpV c .NotIn dNotIn:=⟨_,op_notIn_sign.or ((op_notInD (ak4 hr)).or op_notIn_seq),zQ⟩
theorem aaT {r:R2}{f:D->D->Option D}(lf:Leaf2V c.X.K r f){ta tb:TE}(ha:Jdg c n1 ga BV ta)(hb:Jdg c true gb BV tb):Jdg c n1 (gOp f ga gb) BD (tOp r ta tb):=by
 intro G F ow σ H L Rr;refine(ha G F ow σ H L Rr).bind1 (t2:=λ v H1 Q=>tb σ H1 λ y H2=>r v y H2 Q) λ d L1 v H1 F1 ow1 _ _ _ R1 b1=>?_;refine(hb G F1 ow1 σ H1 L1 R1).bind1 (t2:=λ y H2 Q=>r v y H2 Q) λ e L2 u H2 F2 ow2 _ e2 s2 R2 b2=>?_
 cases hf:f d e with
 | none=>trivial
 | some z =>
  obtain⟨w,hw,q⟩:=lf F2 H2 ow2 v u d e z R2.exF (BV.up (ow':=ow2) b1 e2 (s2 rfl)) b2 hf;exact(Post.val R2 hw).imp q
variable {op:CmpOp}{f:D->D->Option D}
theorem wg (h:CmpV c op f)(ha:JV c n1 a ga)(hb:JV c true b gb)(hm:behindInMarks op b=false):JD c n1 (.Compare a [op] [b] pos) (gOp f ga gb):=by
 obtain⟨ta,p1,q1⟩:=ha;obtain⟨tb,p2,q2⟩:=hb;obtain⟨r,h1,h2⟩:=h;exact⟨_,pe_cmpR h1 p1 p2 hm,aaT h2 q1 q2⟩
theorem bB (h:CmpV c op f)(ha:JV c n1 a ga)(hb:JV c true b gb)(hm:behindInMarks op b=false):JT c n1 (.Compare a [op] [b] pos) (gB (gOp f ga gb)):=by
 obtain⟨ta,p1,q1⟩:=ha;obtain⟨tb,p2,q2⟩:=hb;obtain⟨r,h1,h2⟩:=h;exact⟨_,pt_cmpR h1 p1 p2 hm,afm (aaT h2 q1 q2)⟩
theorem alb {X:Cx}{tg e:Expr}{w1 w2:TI}(h1:PI X tg e w1)(h2:PI X tg e w2):PI X tg e (λ σ H R=>w1 σ H R∨w2 σ H R):=⟨λ pins s σ H R I h=>by
 rcases h with h | h
 ·exact h1.run pins s σ H R I h
 ·exact h2.run pins s σ H R I h⟩
def signs (x:Str):List D:=x.cps.toList.map λ k=>PyData.str ⟨#[k]⟩
def fG:D->LS->R (List D)
 | .list ds,L=>.ok ds L
 | .tuple ds,L=>.ok ds L
 | .str x,L=>.ok (signs x) L
 | _,_=>.stuck
variable {tg:Expr}
theorem alc {K:PySem.W.Frag}{B F:Hp}{x:Str}:ItOk K B F (signs x) (Its x):=λ i H s _=>by
 unfold signs
 rw[List.length_map,Array.length_toList]
 refine⟨λ h=>h,λ d hd=>?_⟩
 have hi:i < x.cps.size:=by
  have:=(List.getElem?_eq_some_iff.mp hd).1
  rw[List.length_map,Array.length_toList]at this
  exact this
 refine⟨hi,λ v H' ⟨e1,k,hk,e2⟩=>.inl ⟨e1,?_⟩⟩
 subst e2
 rw[List.getElem?_map,Array.getElem?_toList,hk]at hd
 cases hd
 exact .str _
theorem aio {t:TE}(q:Jdg c n ga BD t):Jdg c n (λ L=>(ga L).bind asL) (BI c.B) (iList c.X.K t):=λ G F ow σ H L Rr =>
 (q G F ow σ H L Rr).bind1 (t2:=λ v H1 Q=>∃ a,v=V.ref a/\(∃ xs,SqL c.X.K H1 a xs)/\Q (Itl c.X.K a) H1) λ d L1 v H1 F1 ow1 _ _ _ R1 b1=>by
  cases b1 with
  | @lst l vs ds h1 h2 =>
   refine(Post.val (a:=ds) (b:=Itl c.X.K l) (B:=BI c.B c.X.K) R1 λ i H s _=>⟨λ hi=>⟨vs,.of (s _ _ h1),by rw[h2.len];exact hi⟩,λ d hd=>?_⟩).imp λ Q q=>⟨l,rfl,⟨vs,.of (R1.exF _ _ h1)⟩,q⟩;obtain⟨v,h3,h4⟩:=h2.get hd
   exact⟨⟨vs,v,.of (s _ _ h1),h3⟩,λ x H' ⟨e1,e2⟩=>.inl ⟨e1,by
    have:=e2 vs (.of (s _ _ h1))
    rw[h3]at this
    cases this
    exact h4⟩⟩
  | _=>trivial
theorem aip {t:TE}(q:Jdg c n ga BD t):Jdg c n (λ L=>(ga L).bind asT) (BI c.B) (iTup c.X.K t):=λ G F ow σ H L Rr =>
 (q G F ow σ H L Rr).bind1 (t2:=λ v H1 Q=>∃ a,v=V.ref a/\(∃ xs,SqT c.X.K H1 a xs)/\Q (Itt c.X.K a) H1) λ d L1 v H1 F1 ow1 _ _ _ R1 b1=>by
  cases b1 with
  | @tup l vs ds h1 h2 =>
   refine(Post.val (a:=ds) (b:=Itt c.X.K l) (B:=BI c.B c.X.K) R1 λ i H s _=>⟨λ hi=>⟨vs,sqt_same s h1,by rw[h2.len];exact hi⟩,λ d hd=>?_⟩).imp λ Q q=>⟨l,rfl,⟨vs,sqt_same R1.exF h1⟩,q⟩;obtain⟨v,h3,h4⟩:=h2.get hd
   exact⟨⟨vs,v,sqt_same s h1,h3⟩,λ x H' ⟨e1,e2⟩=>.inl ⟨e1,by
    have:=e2 vs (sqt_same s h1)
    rw[h3]at this
    cases this
    exact h4⟩⟩
  | _=>trivial
def asX:D->LS->R (List D)
 | .str x,L=>.ok (signs x) L
 | _,_=>.stuck
theorem aiq {t:TE}(q:Jdg c n ga BD t):Jdg c n (λ L=>(ga L).bind asX) (BI c.B) (iStr t):=λ G F ow σ H L Rr =>
 (q G F ow σ H L Rr).bind1 (t2:=λ v H1 Q=>∃ x,v=V.str x/\Q (Its x) H1) λ d L1 v H1 F1 ow1 _ _ _ R1 b1=>by
  cases b1 with
  | str x=>exact(Post.val (a:=signs x) (b:=Its x) (B:=BI c.B c.X.K) R1 alc).imp λ Q q=>⟨x,rfl,q⟩
  | _=>trivial
theorem pQ (h:JD c n a ga):JI c n tg a (λ L=>(ga L).bind fG):=by
 obtain⟨t,p,q⟩:=h;refine⟨λ σ H R=>iList c.X.K t σ H R∨iTup c.X.K t σ H R∨iStr t σ H R,alb (pi_list p) (alb (pi_tup p) (pi_str p)),λ G F ow σ H L Rr=>?_⟩
 have h1:=aio q G F ow σ H L Rr
 have h2:=aip q G F ow σ H L Rr
 have h3:=aiq q G F ow σ H L Rr
 show Post c G n F H σ ((ga L).bind fG) _ _
 dsimp only at h1 h2 h3
 cases hr:ga L with
 | stuck=>trivial
 | err e L1 =>
  rw[hr]at h1;exact Post.imp h1 λ Q z=>.inl z
 | ok d L1 =>
  rw[hr]at h1 h2 h3
  cases d with
  | list ds=>exact Post.imp h1 λ Q z=>.inl z
  | tuple ds=>exact Post.imp h2 λ Q z=>.inr (.inl z)
  | str x=>exact Post.imp h3 λ Q z=>.inr (.inr z)
  | _=>trivial
end
structure Dx (P:Program)(w:World)(K:PySem.W.Frag)(mg:Str->Option Value)(base:Heap)(ca:Nat->Addr)(x:Str)(k:Nat)(ps:List Str)(md:List Bool)(m:LS->R S):Prop where
 ex:∃ f fd,FnOk P w K mg base (L2.CX P w) k f fd ps (VSp K ca md m)/\mg x=some (.ref f)/\PySem.W.keepIn K (.ref f)=true/\Binds K fd ps []
theorem lU {P:Program}{w:World}{K:PySem.W.Frag}{mg:Str->Option Value}{base:Heap}{ca:Nat->Addr}{x:Str}{k:Nat}{ps:List Str}{md:List Bool}{m:LS->R S}{f:Addr}{fd:FuncData}
  (h:FnOk P w K mg base (L2.CX P w) k f fd ps (VSp K ca md m)) (hg:mg x=some (.ref f)) (hk:PySem.W.keepIn K (.ref f)=true) (hb:Binds K fd ps []):Dx P w K mg base ca x k ps md m:=⟨f,fd,h,hg,hk,hb⟩
section
variable {c:Ct}{n:Bool}{pos:Pos}{es:List Expr}{as:List Ar}
theorem cJ {x:Str}{k j:Nat}{ps:List Str}{md:List Bool}{m:LS->R S}{p:Pos}{e:Expr}(D:Dx c.X.prog c.X.w c.X.K c.X.mg c.X.base c.ca x k ps md m)(hr:Room j c.X.A)(hk:k<=j)(tk:Takes c.X c.W)(hg:Gl c.X x)(ha:JAr c n (e::es) as)(hl:as.length=md.length:=by rfl)
  (hdb:(x == ("__debug__":Str))=false:=by decide) (he:starEach (e::es) c.X.env=(false,eval e c.X.env)::starEach es c.X.env:=by rfl) (hpl:(backTo pos (starEach es c.X.env)).any (·.1)=false:=by rfl) :
  JE c (n&&allD as) (.Call (.Name x p) (e::es) [] pos) (gCall m as):=by
 obtain⟨f,fd,h1,h2,h3,h4⟩:=D.ex;exact ain h1 (hr.mono hk) tk hg h2 h3 h4 ha hl hdb he hpl
theorem ald {x z:Str}(hg:Gl c.X x)(hm:∃ t,c.X.mg x=some (.str z t))(hd:(x == ("__debug__":Str))=false:=by decide):JD c true (.Name x pos) (gC (.str z)):=by
 obtain⟨t,hm⟩:=hm;exact ak0 (pe_glob (v:=.str z) hg hm ⟨t,rfl⟩ hd) λ _ _=>.str _
end
theorem ale {K:PySem.W.Frag}{ca:Nat->Addr}{m:LS->R S}{H:Hp}{a:Addr}{ns:List Int}(hS:SqL K H a (ns.map V.int)){L:LS}(h:m [some (.scr ns)]=.ok (.d (.bool true)) L) :
  VSp K ca [true] m [.ref a] H (λ v _=>v=.bl true) (λ _ _ _=>False):=by
 refine⟨λ _=>none,λ _=>none,H,λ _=>none,[some (.scr ns)],rfl,⟨Same.refl H,(λ _ _ h=>nomatch h),(λ _ _ h=>nomatch h),(λ _ _ _=>.inl rfl),rfl,λ i s hi=>?_,(λ i v hi=>nomatch hi),(λ _ _ h=>nomatch h),(λ _ _ h=>nomatch h)⟩,?_⟩
 ·cases i with
  | zero =>
   cases hi
   exact⟨.ref a,rfl,RT.of (.scr hS)⟩
  | succ i=>cases hi
 ·rw[h]
  intro v H' F' ow' _ _ rs
  cases rs with
  | d q=>cases q;rfl
theorem afy {P:Program}{w:World}(H:Hp)(s:Shared)(e:Value)(s':Shared):L2.CX P w [] H s (λ _ _ _=>False) e s'->False:=λ h=>by
 obtain⟨_,_,_,_,_,_,_,_,_,_,_,_,z⟩:=h;exact z
section
variable {K:PySem.W.Frag}
theorem cM {x:Str}(c:(He.Fa.glo x).ok K=true):PySem.W.nsIn K mainGlobals x=some (some (.ref (He.ga K x))):=He.eqO_ok c
theorem jD {x:Str}(c:(He.Fa.free x).ok K=true):PySem.W.nsIn K mainGlobals x=some none:=He.eqO_ok c
theorem acN {x z:Str}(c:(He.Fa.str x z).ok K=true):∃ t,PySem.W.nsIn K mainGlobals x=some (some (.str z t)):=by
 have c2:(match PySem.W.nsIn K mainGlobals x with
  | some (some (.str y _))=>decide (y=z)
  | _=>false)=true:=c
 split at c2
 ·rename_i y t e
  have ej:y=z:=of_decide_eq_true c2
  exact⟨t,by rw[e,ej]⟩
 ·cases c2
theorem dM {x q:Str}{ps:Arguments}{body:List Stmt}{sc:Scope}{f:Addr}{fd:FuncData}(F:FunD K x q ps body sc [] [] f fd):∃ (od an:Option Addr) (sl:Array (Option Value)) (oc kV dc pm cd ct:Value),K.lookup f=some ⟨oc,od,.func (PySem.W.fnOf x q ps body sc .none kV dc pm an cd ct),sl⟩/\PySem.W.codeIn K cd q=true/\PySem.W.keepIn K (.ref f)=true:=by
 obtain⟨oc,od,dV,kV,doc,pm,an,cdv,ct,osl,rfl,lk,hcd,hd,_⟩:=F.ex
 have e:dV=.none:=by
  rcases hd with ⟨_,e⟩ | ⟨e,_⟩
  ·exact e
  ·exact absurd rfl e
 subst e
 exact⟨od,an,osl,oc,kV,doc,pm,cdv,ct,lk,hcd,F.kp⟩
end
/-- what the head's facts must give for a law -/
def HdOk (l:PySem.W.OpenLaw)(n k:Nat)(x:Str)(CX:World->CXT)(w:World)(mg:Str->Option Value)(fa:Addr)(h:Heap):Prop :=
 ∃ (K:PySem.W.Frag) (fd:FuncData) (sp:Sp),K.In h/\(∀ (s:Shared) (u:Value),BindsTo s fd ⟨[u],[]⟩ [(x,u)]) /\
  (∀ (H:Hp) (a:Addr) (ns:List Int),ns.length<=n->Only H->SqL K H a (ns.map V.int)->sp [.ref a] H (λ v _=>v=.bl true) (λ _ _ _=>False)) /\
   (∀ base:Heap,K.In base->base.Ns mainGlobals mg->FnOk l.prog w K mg base (CX w) k fa fd [x] sp)
/-- the end of a law over facts,where what may be let out hangs on the apy -/
theorem alf {l:PySem.W.OpenLaw}{n k:Nat}{q:Program}{lo:List Str}{XP:(Str->Option Value)->Heap->Prop}{YP:World->Heap->Prop}{d:DefRec}{CX:World->CXT}{x:Str}(h1:l.most=some n)(h2:n<=sizeLine)(h3:d.params.defaults=[])(h4:Room k callerA)
  (F:∀ w mg fa h,YP w h->h.Ns mainGlobals mg->mg d.name=some (.ref fa)->HdOk l n k x CX w mg fa h) (h5:∀ w H s e s',CX w [] H s (λ _ _ _=>False) e s'->False):PySem.W.WalkO q lo XP YP l.row.toRowW d [] (λ f vs=>PySem.call f vs):=by
 refine Att.attach_call h1 h3 λ w s0 s1 mg mb fa o pm cd doc a vs ns G Y ho hd hcd hmg hob hin hlen hg=>?_
 obtain⟨K,fd,sp,kx,hb,hs,hF⟩:=F w mg fa _ Y G.T.g hmg
 exact law_call kx G.T.g G.T.b G.T.builtins G.T.nolimit hg hob hin (Nat.le_trans hlen h2) h4 hF hb (λ H z1 z2=>hs H a ns hlen z1 z2) (λ H e s'=>h5 w H s1 e s')
end VS
namespace Tx
open PySem PySem.Spec PyProof.Rows L2 VS
abbrev MmT:=LS->R S
def EndT (mm:MmT):Prop:=∀ ns:List Int,ns.length<=63->∃ L,mm [some (.scr ns)]=.ok (.d (.bool true)) L
def EndF (mm:MmT):Prop:=∀ (w:World) (K:W.Frag) (h:Heap) (mg:Str->Option Value) (fa:Addr) (X:K.In h) (G:h.Ns mainGlobals mg) (hfa:mg "law"=some (.ref fa)) (c:VS.SaysY faL fnL exL tsL w h K),∃ fd:FuncData,(∀ (s:Shared) (v:Value),BindsTo s fd ⟨[v],[]⟩ [("_law_script",v)])/\∀ base:Heap,K.In base->base.Ns mainGlobals mg->FnOk PySem.Challenge.rw_forsworn_k49_deeds_written.prog w K mg base (L2.CX PySem.Challenge.rw_forsworn_k49_deeds_written.prog w) 15 fa fd ["_law_script"] (VSp K (λ _=>0) [true] mm)
end Tx
set_option maxHeartbeats 0 in
theorem Tx.endL (mm:Tx.MmT)(T:Tx.EndT mm)(FA:Tx.EndF mm):PySem.Challenge.rw_forsworn_k49_deeds_written.Holds:=by
 w_on;o_law
 refine HandSHeadRun.head_any (r:=PySem.W.OpenLaw.row PySem.Challenge.rw_forsworn_k49_deeds_written) (q:=PySem.W.view (PySem.W.OpenLaw.row PySem.Challenge.rw_forsworn_k49_deeds_written).prog [29]) (H:=Tx.hkL) (ob:=Tx.obL) (M:=16000) (loose:=Tx.nmL) (d:=HandSHeadRun.topDef (PySem.W.OpenLaw.row PySem.Challenge.rw_forsworn_k49_deeds_written).prog 29) (kwd:=[]) Tx.akZ (by kernel_rfl) (λ z=>by kernel_rfl) Tx.runL (by kernel_rfl) (by kernel_rfl) (by kernel_rfl) (by rfl) (by first | assumption | decide +kernel) (by decide +kernel) ⟨rfl,rfl,rfl,rfl,rfl,by decide +kernel⟩ ?hw ?hc
 case hw=>w_witness2
 case hc =>
  refine VS.alf (l:=PySem.Challenge.rw_forsworn_k49_deeds_written) (n:=63) (k:=15) (x:="_law_script") (CX:=λ w=>L2.CX PySem.Challenge.rw_forsworn_k49_deeds_written.prog w) rfl (by decide) (by kernel_rfl) ⟨rfl,by decide,by decide⟩ ?F (λ _ H s e s' h=>VS.afy H s e s' h)
  intro w mg fa h Y G hm
  obtain⟨K,KX,c⟩:=Y
  have hmg:mg ("law":PySem.Str)=some (.ref fa):=by
   have e:(HandSHeadRun.topDef (PySem.W.OpenLaw.row PySem.Challenge.rw_forsworn_k49_deeds_written).prog 29).name=("law":PySem.Str):=by kernel_rfl
   rw[←e]
   exact hm
  obtain⟨fd,hb,hF⟩:=FA w K h mg fa KX G hmg c
  exact⟨K,fd,_,KX,hb,λ H a ns hl _ hS=>(T ns hl).elim λ L h=>VS.ale hS h,hF⟩
namespace VS
open PySem PySem.Spec PyProof.Rows L2
section
variable {α:Type}{L L1 L2:LS}{i:Nat}
def seqK (r:R O)(g:LS->R O):R O:=match r with
 | .ok .nx L1=>g L1
 | r=>r
theorem iy (g1 g2:LS->R O)(L:LS):gSeq g1 g2 L=seqK (g1 L) g2:=rfl
theorem d9 (L:LS)(g:LS->R O):seqK (.ok .nx L) g=g L:=rfl
theorem acO (s:S)(L:LS)(g:LS->R O):seqK (.ok (.rt s) L) g=.ok (.rt s) L:=rfl
theorem ais (L:LS)(g:LS->R O):seqK (.ok .bk L) g=.ok .bk L:=rfl
theorem ait (L:LS)(g:LS->R O):seqK (.ok .ct L) g=.ok .ct L:=rfl
theorem afz (e:Nat)(L:LS)(g:LS->R O):seqK (.err e L) g=.err e L:=rfl
theorem acP (L:LS):gNext L=.ok .nx L:=rfl
def ifK (r:R Bool)(x y:LS->R O):R O:=r.bind λ b L1=>if b=true then x L1 else y L1
theorem ev_if (t:LS->R Bool)(x y:LS->R O)(L:LS):gIf t x y L=ifK (t L) x y:=rfl
theorem aaU (b:Bool)(L:LS)(x y:LS->R O):ifK (.ok b L) x y=if b=true then x L else y L:=rfl
theorem aiu (e:Nat)(L:LS)(x y:LS->R O):ifK (.err e L) x y=.err e L:=rfl
def asgK (i:Nat)(r:R S):R O:=r.bind λ s L1=>.ok .nx (L1.set i (some s))
theorem alg (i:Nat)(g:LS->R S)(L:LS):gAsg i g L=asgK i (g L):=rfl
theorem aiv (i:Nat)(s:S)(L:LS):asgK i (.ok s L)=.ok .nx (L.set i (some s)):=rfl
theorem afA (i e:Nat)(L:LS):asgK i (.err e L)=.err e L:=rfl
def retK (r:R S):R O:=r.bind λ s L1=>.ok (.rt s) L1
theorem alh (g:LS->R S)(L:LS):gRet g L=retK (g L):=rfl
theorem aiw (s:S)(L:LS):retK (.ok s L)=.ok (.rt s) L:=rfl
theorem afB (e:Nat)(L:LS):retK (.err e L)=.err e L:=rfl
theorem aix (L:LS):gRetN L=.ok (.rt (.d .none)) L:=rfl
def dropK (r:R α):R O:=r.bind λ _ L1=>.ok .nx L1
theorem aiy (g:LS->R α)(L:LS):gDrop g L=dropK (g L):=rfl
theorem afC (a:α)(L:LS):dropK (.ok a L)=.ok .nx L:=rfl
theorem acQ (e:Nat)(L:LS):dropK (.err e L:R α)=.err e L:=rfl
theorem ev_c (d:D)(L:LS):gC d L=.ok d L:=rfl
def dK (r:R D):R S:=r.bind λ d L1=>.ok (.d d) L1
theorem ape (g:LS->R D)(L:LS):gD g L=dK (g L):=rfl
theorem anw (d:D)(L:LS):dK (.ok d L)=.ok (.d d) L:=rfl
theorem ali (e:Nat)(L:LS):dK (.err e L)=.err e L:=rfl
def fzK (r:R S):R D:=r.bind frS
theorem anx (g:LS->R S)(L:LS):gFz g L=fzK (g L):=rfl
theorem anz (d:D)(L:LS):fzK (.ok (.d d) L)=.ok d L:=rfl
theorem anA (ds:List D)(L:LS):fzK (.ok (.ol ds) L)=.ok (.list ds) L:=rfl
theorem aiz (e:Nat)(L:LS):fzK (.err e L)=.err e L:=rfl
def anB (f:D->D->Option α)(b:LS->R D)(r:R D):R α:=r.bind λ d L1=>(b L1).bind λ e L2=>ofO (f d e) L2
def anC (f:D->D->Option α)(d:D)(r:R D):R α:=r.bind λ e L2=>ofO (f d e) L2
theorem ev_op (f:D->D->Option α)(a b:LS->R D)(L:LS):gOp f a b L=anB f b (a L):=rfl
theorem aiA (f:D->D->Option α)(b:LS->R D)(d:D)(L:LS):anB f b (.ok d L)=anC f d (b L):=rfl
theorem afD (f:D->D->Option α)(b:LS->R D)(e:Nat)(L:LS):anB f b (.err e L)=.err e L:=rfl
theorem aiB (f:D->D->Option α)(d e:D)(L:LS):anC f d (.ok e L)=ofO (f d e) L:=rfl
theorem afE (f:D->D->Option α)(d:D)(e:Nat)(L:LS):anC f d (.err e L)=.err e L:=rfl
def unK (f:D->Option α)(r:R D):R α:=r.bind λ d L1=>ofO (f d) L1
theorem ev_un (f:D->Option α)(a:LS->R D)(L:LS):gUn f a L=unK f (a L):=rfl
theorem alj (f:D->Option α)(d:D)(L:LS):unK f (.ok d L)=ofO (f d) L:=rfl
theorem aiC (f:D->Option α)(e:Nat)(L:LS):unK f (.err e L)=.err e L:=rfl
theorem alk (T:String)(a:LS->R D)(L:LS):gIsi T a L=unK (isTy T) (a L):=rfl
def bK (r:R D):R Bool:=r.bind asB
theorem apf (g:LS->R D)(L:LS):gB g L=bK (g L):=rfl
theorem anD (b:Bool)(L:LS):bK (.ok (.bool b) L)=.ok b L:=rfl
theorem alm (e:Nat)(L:LS):bK (.err e L)=.err e L:=rfl
def andK (r:R Bool)(b:LS->R Bool):R Bool:=r.bind λ x L1=>if x=true then b L1 else .ok false L1
def orK (r:R Bool)(b:LS->R Bool):R Bool:=r.bind λ x L1=>if x=true then .ok true L1 else b L1
def notK (r:R Bool):R Bool:=r.bind λ x L1=>.ok (!x) L1
theorem aln (a b:LS->R Bool)(L:LS):gAnd a b L=andK (a L) b:=rfl
theorem aiD (x:Bool)(b:LS->R Bool)(L:LS):andK (.ok x L) b=if x=true then b L else .ok false L:=rfl
theorem afF (e:Nat)(b:LS->R Bool)(L:LS):andK (.err e L) b=.err e L:=rfl
theorem anE (a b:LS->R Bool)(L:LS):gOr a b L=orK (a L) b:=rfl
theorem alo (x:Bool)(b:LS->R Bool)(L:LS):orK (.ok x L) b=if x=true then .ok true L else b L:=rfl
theorem aiE (e:Nat)(b:LS->R Bool)(L:LS):orK (.err e L) b=.err e L:=rfl
theorem alp (a:LS->R Bool)(L:LS):gNot a L=notK (a L):=rfl
theorem aiF (x:Bool)(L:LS):notK (.ok x L)=.ok (!x) L:=rfl
def andVK (r:R D)(b:LS->R D):R D:=r.bind λ d L1=>match d with
 | .bool x=>if x=true then b L1 else .ok (.bool false) L1
 | _=>.stuck
def orVK (r:R D)(b:LS->R D):R D:=r.bind λ d L1=>match d with
 | .bool x=>if x=true then .ok (.bool true) L1 else b L1
 | _=>.stuck
theorem ev_andV (a b:LS->R D)(L:LS):gAndV a b L=andVK (a L) b:=rfl
theorem afG (x:Bool)(b:LS->R D)(L:LS):andVK (.ok (.bool x) L) b=if x=true then b L else .ok (.bool false) L:=rfl
theorem ev_orV (a b:LS->R D)(L:LS):gOrV a b L=orVK (a L) b:=rfl
theorem aiG (x:Bool)(b:LS->R D)(L:LS):orVK (.ok (.bool x) L) b=if x=true then .ok (.bool true) L else b L:=rfl
def ifEK (r:R Bool)(a b:LS->R α):R α:=r.bind λ x L1=>if x=true then a L1 else b L1
theorem alq (t:LS->R Bool)(a b:LS->R α)(L:LS):gIfE t a b L=ifEK (t L) a b:=rfl
theorem aiH (x:Bool)(a b:LS->R α)(L:LS):ifEK (.ok x L) a b=if x=true then a L else b L:=rfl
def acR (r:LS->R (List D))(x:R D):R (List D):=x.bind λ d L1=>(r L1).bind λ ds L2=>.ok (d::ds) L2
def acS (d:D)(r:R (List D)):R (List D):=r.bind λ ds L2=>.ok (d::ds) L2
theorem alr (L:LS):gNil L=.ok [] L:=rfl
theorem acT (a:LS->R D)(r:LS->R (List D))(L:LS):gCons a r L=acR r (a L):=rfl
theorem acU (r:LS->R (List D))(d:D)(L:LS):acR r (.ok d L)=acS d (r L):=rfl
theorem abE (r:LS->R (List D))(e:Nat)(L:LS):acR r (.err e L)=.err e L:=rfl
theorem acV (d:D)(ds:List D)(L:LS):acS d (.ok ds L)=.ok (d::ds) L:=rfl
theorem abF (d:D)(e:Nat)(L:LS):acS d (.err e L)=.err e L:=rfl
def lstK (r:R (List D)):R S:=r.bind λ ds L1=>if ds.length<=sizeLine then .ok (.ol ds) L1 else .stuck
def tupK (r:R (List D)):R D:=r.bind λ ds L1=>if ds.length<=sizeLine then .ok (.tuple ds) L1 else .stuck
theorem als (a:LS->R (List D))(L:LS):gLst a L=lstK (a L):=rfl
theorem aiI (ds:List D)(L:LS):lstK (.ok ds L)=if ds.length<=sizeLine then .ok (.ol ds) L else .stuck:=rfl
theorem alu (a:LS->R (List D))(L:LS):gTup a L=tupK (a L):=rfl
theorem aiJ (ds:List D)(L:LS):tupK (.ok ds L)=if ds.length<=sizeLine then .ok (.tuple ds) L else .stuck:=rfl
theorem yc {n:Nat}(h:n<=1000000):n<=sizeLine:=by rw[PySem.sizeLine_eq];omega
def varK (i:Nat)(o:Option (Option S))(L:LS):R D:=match o with
 | some (some (.d d))=>.ok d L
 | some (some (.ol ds))=>.ok (.list ds) (L.set i (some (.d (.list ds))))
 | _=>.stuck
theorem ev_var (i:Nat)(L:LS):gVar i L=varK i L[i]? L:=rfl
theorem alv (i:Nat)(d:D)(L:LS):varK i (some (some (.d d))) L=.ok d L:=rfl
theorem alw (i:Nat)(ds:List D)(L:LS):varK i (some (some (.ol ds))) L=.ok (.list ds) (L.set i (some (.d (.list ds)))):=rfl
def peekK (o:Option (Option S))(L:LS):R D:=match o with
 | some (some (.d d))=>.ok d L
 | some (some (.ol ds))=>.ok (.list ds) L
 | some (some (.scr ns))=>.ok (.list (ns.map PyData.int)) L
 | some (some (.bl ds))=>.ok (.list ds) L
 | _=>.stuck
theorem aiK (i:Nat)(L:LS):gPeek i L=peekK L[i]? L:=rfl
theorem aiL (d:D)(L:LS):peekK (some (some (.d d))) L=.ok d L:=rfl
theorem aiM (ds:List D)(L:LS):peekK (some (some (.ol ds))) L=.ok (.list ds) L:=rfl
theorem aiN (ns:List Int)(L:LS):peekK (some (some (.scr ns))) L=.ok (.list (ns.map PyData.int)) L:=rfl
def moveK (i:Nat)(o:Option (Option S))(L:LS):R S:=match o with
 | some (some (.d d))=>.ok (.d d) L
 | some (some (.scr _))=>.stuck
 | some (some (.b _))=>.stuck
 | some (some (.bl _))=>.stuck
 | some (some s)=>.ok s (L.set i none)
 | _=>.stuck
theorem aiO (i:Nat)(L:LS):gMove i L=moveK i L[i]? L:=rfl
theorem aiP (i:Nat)(d:D)(L:LS):moveK i (some (some (.d d))) L=.ok (.d d) L:=rfl
theorem aiQ (i:Nat)(ds:List D)(L:LS):moveK i (some (some (.ol ds))) L=.ok (.ol ds) (L.set i none):=rfl
def ixK (i:Nat)(o:Option (Option S))(b:LS->R D)(L:LS):R D:=match o with
 | some (some _)=>(b L).bind λ e L1=>(gPeek i L1).bind λ d L2=>ofO (dIx d e) L2
 | _=>.stuck
def anF (i:Nat)(r:R D):R D:=r.bind λ e L1=>(gPeek i L1).bind λ d L2=>ofO (dIx d e) L2
def aoY (e:D)(r:R D):R D:=r.bind λ d L2=>ofO (dIx d e) L2
theorem alx (i:Nat)(b:LS->R D)(L:LS):gIxP i b L=ixK i L[i]? b L:=rfl
theorem aly (i:Nat)(s:S)(b:LS->R D)(L:LS):ixK i (some (some s)) b L=anF i (b L):=rfl
theorem aiR (i:Nat)(e:D)(L:LS):anF i (.ok e L)=aoY e (gPeek i L):=rfl
theorem afH (i e:Nat)(L:LS):anF i (.err e L)=.err e L:=rfl
theorem aiS (e d:D)(L:LS):aoY e (.ok d L)=ofO (dIx d e) L:=rfl
theorem aaV (xs:List D)(k:Nat):atI xs (k:Int)=xs[k]?:=by
 unfold atI ixN;rw[if_pos (Int.natCast_nonneg k)]
 by_cases h:k < xs.length
 ·rw[if_pos (by omega)]
  rfl
 ·rw[if_neg (by omega),List.getElem?_eq_none (by omega)]
  rfl
theorem o8 (xs:List D)(k:Nat):dIx (.list xs) (.int (k:Int))=xs[k]?:=aaV xs k
theorem pW (xs:List D)(k:Nat):dIx (.tuple xs) (.int (k:Int))=xs[k]?:=aaV xs k
theorem alz (xs:List D):dIx (.list xs) (.int 0)=xs[0]?:=o8 xs 0
theorem alA (xs:List D):dIx (.list xs) (.int 1)=xs[1]?:=o8 xs 1
theorem alB (xs:List D):dIx (.list xs) (.int 2)=xs[2]?:=o8 xs 2
theorem alC (xs:List D):dIx (.list xs) (.int 3)=xs[3]?:=o8 xs 3
theorem alD (xs:List D):dIx (.list xs) (.int 4)=xs[4]?:=o8 xs 4
theorem alE (xs:List D):dIx (.tuple xs) (.int 0)=xs[0]?:=pW xs 0
theorem alF (xs:List D):dIx (.tuple xs) (.int 1)=xs[1]?:=pW xs 1
theorem alG (xs:List D):dIx (.tuple xs) (.int 2)=xs[2]?:=pW xs 2
theorem alH (xs:List D):dIx (.tuple xs) (.int 3)=xs[3]?:=pW xs 3
def aiT (i:Nat)(gk:LS->R D)(r:R D):R O:=r.bind λ d L1=>match L1[i]? with
 | some (some _)=>(gk L1).bind (setAt i d)
 | _=>.stuck
def alI (i:Nat)(gk:LS->R D)(d:D)(o:Option (Option S))(L:LS):R O:=match o with
 | some (some _)=>(gk L).bind (setAt i d)
 | _=>.stuck
def alJ (i:Nat)(d:D)(r:R D):R O:=r.bind (setAt i d)
def yd (i:Nat)(d:D)(k:Int)(o:Option (Option S))(L:LS):R O:=match o with
 | some (some (.ol ds))=>(match ixN ds.length k with
  | some j=>.ok .nx (L.set i (some (.ol (ds.set j d))))
  | none=>.stuck)
 | _=>.stuck
theorem afI (i:Nat)(gk g:LS->R D)(L:LS):gSetIx i gk g L=aiT i gk (g L):=rfl
theorem afJ (i:Nat)(gk:LS->R D)(d:D)(L:LS):aiT i gk (.ok d L)=alI i gk d L[i]? L:=rfl
theorem acW (i:Nat)(gk:LS->R D)(e:Nat)(L:LS):aiT i gk (.err e L)=.err e L:=rfl
theorem afK (i:Nat)(gk:LS->R D)(d:D)(s:S)(L:LS):alI i gk d (some (some s)) L=alJ i d (gk L):=rfl
theorem afL (i:Nat)(d:D)(k:Int)(L:LS):alJ i d (.ok (.int k) L)=yd i d k L[i]? L:=rfl
theorem nq (i:Nat)(d:D)(k:Nat)(ds:List D)(L:LS):yd i d (k:Int) (some (some (.ol ds))) L=if k < ds.length then .ok .nx (L.set i (some (.ol (ds.set k d)))) else .stuck:=by
 unfold yd ixN
 dsimp only
 rw[if_pos (Int.natCast_nonneg k)]
 by_cases h:k < ds.length
 ·rw[if_pos (by omega),if_pos h]
  rfl
 ·rw[if_neg (by omega),if_neg h]
theorem aiU (i:Nat)(d:D)(ds:List D)(L:LS):yd i d 0 (some (some (.ol ds))) L=if 0 < ds.length then .ok .nx (L.set i (some (.ol (ds.set 0 d)))) else .stuck:=nq i d 0 ds L
theorem aiV (i:Nat)(d:D)(ds:List D)(L:LS):yd i d 1 (some (some (.ol ds))) L=if 1 < ds.length then .ok .nx (L.set i (some (.ol (ds.set 1 d)))) else .stuck:=nq i d 1 ds L
theorem aiW (i:Nat)(d:D)(ds:List D)(L:LS):yd i d 2 (some (some (.ol ds))) L=if 2 < ds.length then .ok .nx (L.set i (some (.ol (ds.set 2 d)))) else .stuck:=nq i d 2 ds L
theorem aiX (i:Nat)(d:D)(ds:List D)(L:LS):yd i d 3 (some (some (.ol ds))) L=if 3 < ds.length then .ok .nx (L.set i (some (.ol (ds.set 3 d)))) else .stuck:=nq i d 3 ds L
theorem aiY (i:Nat)(d:D)(ds:List D)(L:LS):yd i d 4 (some (some (.ol ds))) L=if 4 < ds.length then .ok .nx (L.set i (some (.ol (ds.set 4 d)))) else .stuck:=nq i d 4 ds L
def aoZ (lo hi:LS->R (Option Int))(r:R D):R S:=r.bind λ d L1=>(lo L1).bind λ l L2=>(hi L2).bind λ u L3=>ofO (dSl d l u) L3
def ao0 (d:D)(hi:LS->R (Option Int))(r:R (Option Int)):R S:=r.bind λ l L2=>(hi L2).bind λ u L3=>ofO (dSl d l u) L3
def ao1 (d:D)(l:Option Int)(r:R (Option Int)):R S:=r.bind λ u L3=>ofO (dSl d l u) L3
theorem anG (a:LS->R D)(lo hi:LS->R (Option Int))(L:LS):gSl a lo hi L=aoZ lo hi (a L):=rfl
theorem aiZ (lo hi:LS->R (Option Int))(d:D)(L:LS):aoZ lo hi (.ok d L)=ao0 d hi (lo L):=rfl
theorem ai0 (d:D)(hi:LS->R (Option Int))(l:Option Int)(L:LS):ao0 d hi (.ok l L)=ao1 d l (hi L):=rfl
theorem ai1 (d:D)(l u:Option Int)(L:LS):ao1 d l (.ok u L)=ofO (dSl d l u) L:=rfl
theorem anH (L:LS):gNo L=.ok none L:=rfl
def soK (r:R D):R (Option Int):=r.bind asI
theorem anI (g:LS->R D)(L:LS):gSo g L=soK (g L):=rfl
theorem alK (i:Int)(L:LS):soK (.ok (.int i) L)=.ok (some i) L:=rfl
theorem ai2 (e:Nat)(L:LS):soK (.err e L)=.err e L:=rfl
def ahJ (gb:LS->R D)(r:R D):R D:=r.bind (gTxt λ a L1=>(gb L1).bind λ e L2=>ofO (dJoin (.str a) e) L2)
def ahK (a:Str)(r:R D):R D:=r.bind λ e L2=>ofO (dJoin (.str a) e) L2
theorem ai3 (ga gb:LS->R D)(L:LS):gJoin ga gb L=ahJ gb (ga L):=rfl
theorem acX (gb:LS->R D)(a:Str)(L:LS):ahJ gb (.ok (.str a) L)=ahK a (gb L):=rfl
theorem acY (a:Str)(e:D)(L:LS):ahK a (.ok e L)=ofO (dJoin (.str a) e) L:=rfl
def alL (i:Nat)(g:LS->R D)(o:Option (Option S))(L:LS):R S:=match o with
 | some (some (.ol _))=>(g L).bind λ d L1=>gOwnL i (λ ds L2=>if ds.length < sizeLine then .ok (.d .none) (L2.set i (some (.ol (ds++[d])))) else .stuck) L1
 | _=>.stuck
def ai4 (i:Nat)(r:R D):R S:=r.bind λ d L1=>gOwnL i (λ ds L2=>if ds.length < sizeLine then .ok (.d .none) (L2.set i (some (.ol (ds++[d])))) else .stuck) L1
def alM (i:Nat)(d:D)(o:Option (Option S))(L:LS):R S:=match o with
 | some (some (.ol ds))=>if ds.length < sizeLine then .ok (.d .none) (L.set i (some (.ol (ds++[d])))) else .stuck
 | _=>.stuck
theorem alN (i:Nat)(g:LS->R D)(L:LS):gApp i g L=alL i g L[i]? L:=rfl
theorem afM (i:Nat)(g:LS->R D)(ds:List D)(L:LS):alL i g (some (some (.ol ds))) L=ai4 i (g L):=rfl
theorem afN (i:Nat)(d:D)(L:LS):ai4 i (.ok d L)=alM i d L[i]? L:=rfl
theorem acZ (i e:Nat)(L:LS):ai4 i (.err e L)=.err e L:=rfl
theorem afO (i:Nat)(d:D)(ds:List D)(L:LS):alM i d (some (some (.ol ds))) L=if ds.length < sizeLine then .ok (.d .none) (L.set i (some (.ol (ds++[d])))) else .stuck:=rfl
def anJ (as:List Ar)(r:R D):R (List Av):=r.bind λ d L1=>(evArgs as L1).bind λ xs L2=>.ok (.d d::xs) L2
def ang (x:Av)(r:R (List Av)):R (List Av):=r.bind λ xs L2=>.ok (x::xs) L2
def ao2 (i:Nat)(o:Option (Option S))(as:List Ar)(L:LS):R (List Av):=match o with
 | some (some _)=>(evArgs as L).bind λ xs L2=>.ok (.r i::xs) L2
 | _=>.stuck
theorem anK (L:LS):evArgs [] L=.ok [] L:=rfl
theorem anL (g:LS->R D)(as:List Ar)(L:LS):evArgs (.d g::as) L=anJ as (g L):=rfl
theorem anM (i:Nat)(as:List Ar)(L:LS):evArgs (.r i::as) L=ao2 i L[i]? as L:=rfl
theorem ai5 (as:List Ar)(d:D)(L:LS):anJ as (.ok d L)=ang (.d d) (evArgs as L):=rfl
theorem afP (as:List Ar)(e:Nat)(L:LS):anJ as (.err e L)=.err e L:=rfl
theorem ai6 (i:Nat)(s:S)(as:List Ar)(L:LS):ao2 i (some (some s)) as L=ang (.r i) (evArgs as L):=rfl
theorem ai7 (x:Av)(xs:List Av)(L:LS):ang x (.ok xs L)=.ok (x::xs) L:=rfl
theorem afQ (x:Av)(e:Nat)(L:LS):ang x (.err e L)=.err e L:=rfl
def callK (m:LS->R S)(r:R (List Av)):R S:=r.bind λ xs L1=>if(refs xs).Nodup then callAt m xs L1 else .stuck
def backK (xs:List Av)(L:LS)(r:R S):R S:=match r with
 | .ok s ss=>.ok s (putBack xs ss L)
 | .err e ss=>.err e (putBack xs ss L)
 | .stuck=>.stuck
theorem ev_call (m:LS->R S)(as:List Ar)(L:LS):gCall m as L=callK m (evArgs as L):=rfl
theorem afR (m:LS->R S)(d:D)(L:LS):callK m (.ok [.d d] L)=backK [.d d] L (m [some (.d d)]):=rfl
theorem jn (m:LS->R S)(xs:List Av)(L:LS)(h:(refs xs).Nodup):callK m (.ok xs L)=backK xs L (m (xs.map (slotOf L))):=if_pos h
theorem afS (m:LS->R S)(d0 d1:D)(L:LS):callK m (.ok [.d d0,.d d1] L)=backK [.d d0,.d d1] L (m [some (.d d0),some (.d d1)]):=rfl
theorem afT (m:LS->R S)(d0 d1 d2:D)(L:LS):callK m (.ok [.d d0,.d d1,.d d2] L)=backK [.d d0,.d d1,.d d2] L (m [some (.d d0),some (.d d1),some (.d d2)]):=rfl
theorem afU (m:LS->R S)(d0 d1 d2 d3:D)(L:LS):callK m (.ok [.d d0,.d d1,.d d2,.d d3] L)=backK [.d d0,.d d1,.d d2,.d d3] L (m [some (.d d0),some (.d d1),some (.d d2),some (.d d3)]):=rfl
theorem afV (m:LS->R S)(d0 d1 d2 d3 d4:D)(L:LS):callK m (.ok [.d d0,.d d1,.d d2,.d d3,.d d4] L)=backK [.d d0,.d d1,.d d2,.d d3,.d d4] L (m [some (.d d0),some (.d d1),some (.d d2),some (.d d3),some (.d d4)]):=rfl
theorem afW (m:LS->R S)(d0 d1 d2 d3 d4 d5:D)(L:LS):callK m (.ok [.d d0,.d d1,.d d2,.d d3,.d d4,.d d5] L)=backK [.d d0,.d d1,.d d2,.d d3,.d d4,.d d5] L (m [some (.d d0),some (.d d1),some (.d d2),some (.d d3),some (.d d4),some (.d d5)]):=rfl
theorem afX (m:LS->R S)(d0 d1 d2 d3 d4 d5 d6:D)(L:LS):callK m (.ok [.d d0,.d d1,.d d2,.d d3,.d d4,.d d5,.d d6] L)=backK [.d d0,.d d1,.d d2,.d d3,.d d4,.d d5,.d d6] L (m [some (.d d0),some (.d d1),some (.d d2),some (.d d3),some (.d d4),some (.d d5),some (.d d6)]):=rfl
theorem afY (m:LS->R S)(d0 d1 d2 d3 d4 d5 d6 d7:D)(L:LS):callK m (.ok [.d d0,.d d1,.d d2,.d d3,.d d4,.d d5,.d d6,.d d7] L)=backK [.d d0,.d d1,.d d2,.d d3,.d d4,.d d5,.d d6,.d d7] L (m [some (.d d0),some (.d d1),some (.d d2),some (.d d3),some (.d d4),some (.d d5),some (.d d6),some (.d d7)]):=rfl
theorem afZ (m:LS->R S)(i:Nat)  (L:LS):callK m (.ok [.r i] L)=backK [.r i] L (m [(L[i]?).join]):=jn m _ L (List.nodup_cons.mpr ⟨List.not_mem_nil,List.nodup_nil⟩)
theorem af0 (m:LS->R S)(i:Nat)(d0:D)(L:LS):callK m (.ok [.r i,.d d0] L)=backK [.r i,.d d0] L (m [(L[i]?).join,some (.d d0)]):=jn m _ L (List.nodup_cons.mpr ⟨List.not_mem_nil,List.nodup_nil⟩)
theorem af1 (m:LS->R S)(i:Nat)(d0 d1:D)(L:LS):callK m (.ok [.r i,.d d0,.d d1] L)=backK [.r i,.d d0,.d d1] L (m [(L[i]?).join,some (.d d0),some (.d d1)]):=jn m _ L (List.nodup_cons.mpr ⟨List.not_mem_nil,List.nodup_nil⟩)
theorem af2 (m:LS->R S)(i:Nat)(d0 d1 d2:D)(L:LS):callK m (.ok [.r i,.d d0,.d d1,.d d2] L)=backK [.r i,.d d0,.d d1,.d d2] L (m [(L[i]?).join,some (.d d0),some (.d d1),some (.d d2)]):=jn m _ L (List.nodup_cons.mpr ⟨List.not_mem_nil,List.nodup_nil⟩)
theorem af3 (m:LS->R S)(i:Nat)(d0 d1 d2 d3:D)(L:LS):callK m (.ok [.r i,.d d0,.d d1,.d d2,.d d3] L)=backK [.r i,.d d0,.d d1,.d d2,.d d3] L (m [(L[i]?).join,some (.d d0),some (.d d1),some (.d d2),some (.d d3)]):=jn m _ L (List.nodup_cons.mpr ⟨List.not_mem_nil,List.nodup_nil⟩)
theorem af4 (m:LS->R S)(i:Nat)(d0 d1 d2 d3 d4:D)(L:LS):callK m (.ok [.r i,.d d0,.d d1,.d d2,.d d3,.d d4] L)=backK [.r i,.d d0,.d d1,.d d2,.d d3,.d d4] L (m [(L[i]?).join,some (.d d0),some (.d d1),some (.d d2),some (.d d3),some (.d d4)]):=jn m _ L (List.nodup_cons.mpr ⟨List.not_mem_nil,List.nodup_nil⟩)
theorem af5 (m:LS->R S)(i:Nat)(d0 d1 d2 d3 d4 d5:D)(L:LS):callK m (.ok [.r i,.d d0,.d d1,.d d2,.d d3,.d d4,.d d5] L)=backK [.r i,.d d0,.d d1,.d d2,.d d3,.d d4,.d d5] L (m [(L[i]?).join,some (.d d0),some (.d d1),some (.d d2),some (.d d3),some (.d d4),some (.d d5)]):=jn m _ L (List.nodup_cons.mpr ⟨List.not_mem_nil,List.nodup_nil⟩)
theorem af6 (m:LS->R S)(i:Nat)(d0 d1 d2 d3 d4 d5 d6:D)(L:LS):callK m (.ok [.r i,.d d0,.d d1,.d d2,.d d3,.d d4,.d d5,.d d6] L)=backK [.r i,.d d0,.d d1,.d d2,.d d3,.d d4,.d d5,.d d6] L (m [(L[i]?).join,some (.d d0),some (.d d1),some (.d d2),some (.d d3),some (.d d4),some (.d d5),some (.d d6)]):=jn m _ L (List.nodup_cons.mpr ⟨List.not_mem_nil,List.nodup_nil⟩)
theorem ac0 (m:LS->R S)(e:Nat)(L:LS):callK m (.err e L)=.err e L:=rfl
theorem af7 (xs:List Av)(L:LS)(s:S)(ss:LS):backK xs L (.ok s ss)=.ok s (putBack xs ss L):=rfl
theorem ac1 (xs:List Av)(L:LS)(e:Nat)(ss:LS):backK xs L (.err e ss)=.err e (putBack xs ss L):=rfl
theorem af8 (L:LS)(d:D):slotOf L (.d d)=some (.d d):=rfl
theorem af9 (L:LS)(i:Nat):slotOf L (.r i)=(L[i]?).join:=rfl
theorem ac2 (xs:List Av)(d:D)(o:Option S)(ss L:LS):putBack (.d d::xs) (o::ss) L=putBack xs ss L:=rfl
theorem ac3 (xs:List Av)(i:Nat)(o:Option S)(ss L:LS):putBack (.r i::xs) (o::ss) L=putBack xs ss (L.set i o):=rfl
theorem zR (ss L:LS):putBack [] ss L=L:=rfl
theorem aga:refs []=[]:=rfl
theorem alO (d:D)(xs:List Av):refs (.d d::xs)=refs xs:=rfl
theorem alP (i:Nat)(xs:List Av):refs (.r i::xs)=i::refs xs:=rfl
theorem aaW (md:List Bool)(N:Nat)(g:LS->R O)(ss:LS):runDef md N g ss=endOf md (g (ss++List.replicate (N - ss.length) none)):=rfl
theorem agb (md:List Bool)(L:LS):endOf md (.ok .nx L)=.ok (.d .none) (maskL md L):=rfl
theorem agc (md:List Bool)(s:S)(L:LS):endOf md (.ok (.rt s) L)=.ok s (maskL md L):=rfl
theorem ac4 (md:List Bool)(e:Nat)(L:LS):endOf md (.err e L)=.err e (maskL md L):=rfl
theorem ai8 (bs:List Bool)(o:Option S)(L:LS):maskL (true::bs) (o::L)=o::maskL bs L:=rfl
theorem ai9 (bs:List Bool)(o:Option S)(L:LS):maskL (false::bs) (o::L)=none::maskL bs L:=rfl
theorem ac5 (L:LS):maskL [] L=[]:=by cases L<;>rfl
def forK (f:D->LS->Option LS)(g:LS->R O)(r:R (List D)):R O:=r.bind λ ds L1=>forGo f g ds L1
theorem aaX (gi:LS->R (List D))(f:D->LS->Option LS)(g:LS->R O)(L:LS):gFor gi f g L=forK f g (gi L):=rfl
theorem wj (f:D->LS->Option LS)(g:LS->R O)(ds:List D)(L:LS):forK f g (.ok ds L)=forGo f g ds L:=rfl
def turnK (f:D->LS->Option LS)(g:LS->R O)(ds:List D)(r:R O):R O:=match r with
 | .ok .nx L2=>forGo f g ds L2
 | .ok .ct L2=>forGo f g ds L2
 | .ok .bk L2=>.ok .nx L2
 | r=>r
theorem ye (f:D->LS->Option LS)(g:LS->R O)(L:LS):forGo f g [] L=.ok .nx L:=rfl
theorem nY (f:D->LS->Option LS)(g:LS->R O)(d:D)(ds:List D){L L1:LS}(h:f d L=some L1):forGo f g (d::ds) L=turnK f g ds (g L1):=by
 show(match f d L with
  | none=>R.stuck
  | some L1=>turnK f g ds (g L1))=_
 rw[h]
theorem pX (f:D->LS->Option LS)(g:LS->R O)(ds:List D)(L:LS):turnK f g ds (.ok .nx L)=forGo f g ds L:=rfl
theorem agd (f:D->LS->Option LS)(g:LS->R O)(ds:List D)(L:LS):turnK f g ds (.ok .ct L)=forGo f g ds L:=rfl
theorem age (f:D->LS->Option LS)(g:LS->R O)(ds:List D)(L:LS):turnK f g ds (.ok .bk L)=.ok .nx L:=rfl
theorem wk (f:D->LS->Option LS)(g:LS->R O)(ds:List D)(s:S)(L:LS):turnK f g ds (.ok (.rt s) L)=.ok (.rt s) L:=rfl
theorem ac6 (f:D->LS->Option LS)(g:LS->R O)(ds:List D)(e:Nat)(L:LS):turnK f g ds (.err e L)=.err e L:=rfl
theorem zU {β:Type}(a:α)(L:LS)(k:α->LS->R β):(R.ok a L).bind k=k a L:=rfl
theorem ac7 (ds:List D)(L:LS):fG (.list ds) L=.ok ds L:=rfl
theorem ac8 (ds:List D)(L:LS):fG (.tuple ds) L=.ok ds L:=rfl
theorem ac9 (x:Str)(L:LS):fG (.str x) L=.ok (signs x) L:=rfl
theorem aja (i:Nat)(d:D)(L:LS):fName i d L=some (L.set i (some (.d d))):=rfl
theorem ajb (L:LS):fNil [] L=some L:=rfl
theorem agf (f:D->LS->Option LS)(r:List D->LS->Option LS)(d:D)(ds:List D)(L:LS):fCons f r (d::ds) L=(f d L).bind (r ds):=rfl
theorem ajc (m:Nat)(f:List D->LS->Option LS)(ds:List D)(L:LS):fTup m f (.tuple ds) L=if ds.length=m then f ds L else none:=rfl
theorem ada {β:Type}(a:α)(k:α->Option β):(some a).bind k=k a:=rfl
def asgTK (f:D->LS->Option LS)(r:R D):R O:=r.bind λ d L1=>match f d L1 with
 | some L2=>.ok .nx L2
 | none=>.stuck
def ahL (o:Option LS):R O:=match o with
 | some L2=>.ok .nx L2
 | none=>.stuck
theorem ajd (f:D->LS->Option LS)(g:LS->R D)(L:LS):gAsgT f g L=asgTK f (g L):=rfl
theorem agg (f:D->LS->Option LS)(d:D)(L:LS):asgTK f (.ok d L)=ahL (f d L):=rfl
theorem adb (L:LS):ahL (some L)=.ok .nx L:=rfl
def lcK (vs:List Nat)(f:D->LS->Option LS)(gt:LS->R Bool)(ge:LS->R D)(r:R (List D)):R S:=r.bind λ ds L1=>lcGo vs f gt ge ds [] (wipeL L1 vs)
theorem anN (vs:List Nat)(gi:LS->R (List D))(f:D->LS->Option LS)(gt:LS->R Bool)(ge:LS->R D)(L:LS):gLc vs gi f gt ge L=lcK vs f gt ge (gi L):=rfl
theorem alQ (vs:List Nat)(f:D->LS->Option LS)(gt:LS->R Bool)(ge:LS->R D)(ds:List D)(L:LS):lcK vs f gt ge (.ok ds L)=lcGo vs f gt ge ds [] (wipeL L vs):=rfl
theorem adc (L:LS):wipeL L []=L:=rfl
theorem abG (L:LS)(v:Nat)(vs:List Nat):wipeL L (v::vs)=(wipeL L vs).set v none:=rfl
theorem alR (L:LS):gYes L=.ok true L:=rfl
theorem aaY (vs:List Nat)(f:D->LS->Option LS)(gt:LS->R Bool)(ge:LS->R D)(acc:List D)(L:LS):lcGo vs f gt ge [] acc L=.ok (.ol acc) L:=rfl
theorem agh (vs:List Nat)(f:D->LS->Option LS)(gt:LS->R Bool)(ge:LS->R D)(d:D)(ds acc:List D){L L1 L2 L3:LS}{y:D}(h1:f d L=some L1)(h2:gt L1=.ok true L2)(h3:ge L2=.ok y L3)(h4:acc.length < sizeLine) :
  lcGo vs f gt ge (d::ds) acc L=lcGo vs f gt ge ds (acc++[y]) (wipeL L3 vs):=by
 rw[lcGo]
 simp only[h1,h2,h3,if_pos,h4]
theorem anO (i j:Int):dLt (.int i) (.int j)=some (.bool (decide (i < j))):=rfl
theorem anP (i j:Int):dLe (.int i) (.int j)=some (.bool (decide (i<=j))):=rfl
theorem anQ (i j:Int):dGt (.int i) (.int j)=some (.bool (decide (j < i))):=rfl
theorem anR (i j:Int):dGe (.int i) (.int j)=some (.bool (decide (j<=i))):=rfl
theorem ade (i j:Int):PyData.eqv (.int i) (.int j)=decide (i=j):=by
 simp only[PyData.eqv]
 exact Bool.beq_eq_decide_eq i j
theorem zV (i j:Str):PyData.eqv (.str i) (.str j)=decide (i=j):=by
 simp only[PyData.eqv]
 exact Bool.beq_eq_decide_eq i j
theorem aaZ (i j:Bool):PyData.eqv (.bool i) (.bool j)=decide (i=j):=by
 simp only[PyData.eqv]
 exact Bool.beq_eq_decide_eq i j
theorem anS (i j:Int):dEq (.int i) (.int j)=some (.bool (decide (i=j))):=by
 unfold dEq;rw[if_pos (.inl rfl),ade]
theorem anT (i j:Str):dEq (.str i) (.str j)=some (.bool (decide (i=j))):=by
 unfold dEq;rw[if_pos (.inl rfl),zV]
theorem anU (i j:Bool):dEq (.bool i) (.bool j)=some (.bool (decide (i=j))):=by
 unfold dEq;rw[if_pos (.inl rfl),aaZ]
theorem anV (i j:Int):dNe (.int i) (.int j)=some (.bool (!decide (i=j))):=by
 unfold dNe;rw[if_pos (.inl rfl),ade]
theorem anW (i j:Str):dNe (.str i) (.str j)=some (.bool (!decide (i=j))):=by
 unfold dNe;rw[if_pos (.inl rfl),zV]
theorem anY (i j:Bool):dIs (.bool i) (.bool j)=some (.bool (decide (i=j))):=rfl
theorem alS (i j:Int):dSub (.int i) (.int j)=some (.int (i - j)):=rfl
theorem lV {i j:Int}(h:0 < j):dMod (.int i) (.int j)=some (.int (i % j)):=if_pos (decide_eq_true h)
theorem wu {i j:Int}(h:0 < j)(h2:j < 1073741824):dDiv (.int i) (.int j)=some (.int (i / j)):=if_pos (decide_eq_true ⟨h,h2⟩)
theorem zW {i j:Int}(h:-(2 ^ 64) < i)(h2:i < 2 ^ 64):dMul (.int i) (.int j)=some (.d (.int (i * j))):=by
 have e:dMulI (.int i) (.int j)=some (.int (i * j)):=if_pos (decide_eq_true (.inl ⟨h,h2⟩))
 show(((dMulI (.int i) (.int j)).map S.d).orElse _)=_;rw[e]
 rfl
theorem aje {i j:Int}(h:0<=j/\j<=1000000/\i.natAbs < 2 ^ 64):dPow (.int i) (.int j)=some (.int (i ^ j.toNat)):=if_pos (decide_eq_true h)
theorem alT (xs:List D):dLen (.list xs)=some (.int xs.length):=rfl
theorem alU (xs:List D):dLen (.tuple xs)=some (.int xs.length):=rfl
theorem alV {x:Str}(h:x.length<=sizeLine):dLen (.str x)=some (.int x.length):=if_pos h
theorem ajf (xs:List D):dList (.list xs)=some (.ol xs):=rfl
theorem ajg (xs:List D):dList (.tuple xs)=some (.ol xs):=rfl
theorem anZ (xs:List D)(lo hi:Option Int):dSl (.list xs) lo hi=some (.ol (cutD xs lo hi)):=rfl
theorem alW {x:Str}(lo hi:Option Int)(h:x.length<=sizeLine):dSl (.str x) lo hi=some (.d (.str (cutS x lo hi))):=if_pos h
theorem alX (b:Bool):dNot (.bool b)=some (.bool (!b)):=rfl
end
theorem agi {P:Program}{w:World}{K:W.Frag}{mg:Str->Option Value}{base:Heap}{ca:Nat->Addr}{x:Str}{k:Nat}{ps:List Str}{md:List Bool}{f:Addr}{fd:FuncData}
  (hg:mg x=some (.ref f)) (hk:W.keepIn K (.ref f)=true) (hb:Binds K fd ps []):Dx P w K mg base ca x k ps md (λ _=>.stuck) :=
 ⟨f,fd,⟨λ vs H Q E h=>by obtain⟨_,_,_,_,_,_,_,z⟩:=h;exact z.elim,λ A outer s H args us vs Q E _ _ _ _ h=>by obtain⟨_,_,_,_,_,_,_,z⟩:=h;exact z.elim⟩,hg,hk,hb⟩
section
variable {c:Ct}{n n1 n2:Bool}{a b e:Expr}{es:List Expr}{ga gb:LS->R D}{gs:LS->R (List D)}{pos p:Pos}
theorem adf {G F H:Hp}{ow:Addr->Option Path}{σ:L2.St}{L:LS}{ds:List D}{v:V}(Rr:c.Rl G F ow σ H L)(hb:BV c.X.K F H ow (.list ds) v):∃ l vs,v=.ref l/\SqL c.X.K H l vs/\DqA c.X.K F vs ds:=by
 rcases hb with hb | ⟨l,vs,ds',rfl,e,h1,h2⟩
 ·cases hb with
  | lst h1 h2=>exact⟨_,_,rfl,.of (Rr.exF _ _ h1),h2⟩
 ·cases e
  exact⟨l,vs,rfl,h1,h2⟩
def srt (ns:List Int):List Int:=ns.mergeSort
def gA {α:Type}(f:List D->Option α)(gs:LS->R (List D)):LS->R α:=λ L=>(gs L).bind λ ds L1=>ofO (f ds) L1
def dMin:List D->Option D
 | [.int i,.int j]=>some (.int (if j < i then j else i))
 | _=>none
def dMax:List D->Option D
 | [.int i,.int j]=>some (.int (if j > i then j else i))
 | _=>none
def gOwnD (i:Nat)(k:List D->LS->R D):LS->R D:=λ L=>match L[i]? with
 | some (some (.ol ds))=>k ds L
 | _=>.stuck
def popK (i:Nat)(k:Int)(L:LS):R D:=match L[i]? with
 | some (some (.ol ds))=>if -(2 ^ 63)<=k/\k < 2 ^ 63 then(match seqIndex? k ds.length with
  | some j=>(match ds[j]? with
   | some d=>.ok d (L.set i (some (.ol (ds.eraseIdx j))))
   | none=>.stuck)
  | none=>.stuck) else .stuck
 | _=>.stuck
def popAt (i:Nat):D->LS->R D
 | .int k,L=>popK i k L
 | _,_=>.stuck
def gPopAt (i:Nat)(g:LS->R D):LS->R D:=gOwnD i λ _ L=>(g L).bind (popAt i)
def zipD:List D->List D->List D:=λ xs ys=>(xs.zip ys).map λ z=>.tuple [z.1,z.2]
def asZip:List D->LS->R (List D)
 | [.list xs,.list ys],L=>.ok (zipD xs ys) L
 | [.tuple xs,.tuple ys],L=>.ok (zipD xs ys) L
 | _,_=>.stuck
theorem ww (xs ys:List D):(zipD xs ys).length=min xs.length ys.length:=by unfold zipD;rw[List.length_map,List.length_zip]
theorem wy {xs ys:List D}{i:Nat}{d:D}(h:(zipD xs ys)[i]?=some d):∃ x y,xs[i]?=some x/\ys[i]?=some y/\d=.tuple [x,y]:=by
 unfold zipD at h;rw[List.getElem?_map]at h
 cases e:(xs.zip ys)[i]? with
 | none=>rw[e]at h;cases h
 | some z =>
  rw[e]at h;obtain⟨h1,h2⟩:=List.getElem?_zip_eq_some.mp e;exact⟨z.1,z.2,h1,h2,(Option.some.inj h).symm⟩
theorem adg {G H1 F1:Hp}{ow1:Addr->Option Path}{σ:L2.St}{L1:LS}{xs ys:List D}{vs:List V}(R1:c.Rl G F1 ow1 σ H1 L1)(b1:DqA c.X.K F1 vs [.list xs,.list ys]) :
  Post c G true F1 H1 σ (.ok (zipD xs ys) L1) (BI c.B c.X.K) (λ Q=>∃ a b xs ys,vs=[.ref a,.ref b]/\((SqL c.X.K H1 a xs/\SqL c.X.K H1 b ys/\Q (Itz c.X.K a b) H1)∨(SqT c.X.K H1 a xs/\SqT c.X.K H1 b ys/\Q (RZ.ItzT c.X.K a b) H1))):=by
 match vs,b1 with
 | _,.cons (@Dq.lst _ _ l us _ h1 h2) (.cons (@Dq.lst _ _ m ws _ h3 h4) .nil) =>
  refine(Post.val (a:=zipD xs ys) (b:=Itz c.X.K l m) (B:=BI c.B c.X.K) R1 λ i H s _=>⟨λ hi=>⟨us,ws,.of (s _ _ h1),.of (s _ _ h3),?_⟩,λ d hd=>?_⟩).imp λ Q q=>⟨l,m,us,ws,rfl,.inl ⟨.of (R1.exF _ _ h1),.of (R1.exF _ _ h3),q⟩⟩
  ·rw[ww]at hi;rw[h2.len,h4.len]
   omega
  ·obtain⟨x,y,hx,hy,rfl⟩:=wy hd;obtain⟨u,hu,ru⟩:=h2.get hx;obtain⟨z,hz,rz⟩:=h4.get hy;refine⟨⟨us,ws,u,z,.of (s _ _ h1),.of (s _ _ h3),hu,hz⟩,λ x' H' ⟨T,x1,y1,e1,e2,e3,e4,e5⟩=>.inr ⟨T,[x1,y1],[x,y],rfl,e1,e2,e3,?_⟩⟩
   have f1:=e4 us (.of (s _ _ h1))
   have f2:=e5 ws (.of (s _ _ h3))
   rw[hu]at f1;rw[hz]at f2
   cases f1
   cases f2
   exact .cons ru (.cons rz .nil)
theorem adh {G H1 F1:Hp}{ow1:Addr->Option Path}{σ:L2.St}{L1:LS}{xs ys:List D}{vs:List V}(R1:c.Rl G F1 ow1 σ H1 L1)(b1:DqA c.X.K F1 vs [.tuple xs,.tuple ys]) :
  Post c G true F1 H1 σ (.ok (zipD xs ys) L1) (BI c.B c.X.K) (λ Q=>∃ a b xs ys,vs=[.ref a,.ref b]/\((SqL c.X.K H1 a xs/\SqL c.X.K H1 b ys/\Q (Itz c.X.K a b) H1)∨(SqT c.X.K H1 a xs/\SqT c.X.K H1 b ys/\Q (RZ.ItzT c.X.K a b) H1))):=by
 match vs,b1 with
 | _,.cons (@Dq.tup _ _ l us _ h1 h2) (.cons (@Dq.tup _ _ m ws _ h3 h4) .nil) =>
  refine(Post.val (a:=zipD xs ys) (b:=RZ.ItzT c.X.K l m) (B:=BI c.B c.X.K) R1 λ i H s _=>⟨λ hi=>⟨us,ws,sqt_same s h1,sqt_same s h3,?_⟩,λ d hd=>?_⟩).imp λ Q q=>⟨l,m,us,ws,rfl,.inr ⟨sqt_same R1.exF h1,sqt_same R1.exF h3,q⟩⟩
  ·rw[ww]at hi;rw[h2.len,h4.len]
   omega
  ·obtain⟨x,y,hx,hy,rfl⟩:=wy hd;obtain⟨u,hu,ru⟩:=h2.get hx;obtain⟨z,hz,rz⟩:=h4.get hy;refine⟨⟨us,ws,u,z,sqt_same s h1,sqt_same s h3,hu,hz⟩,λ x' H' ⟨T,x1,y1,e1,e2,e3,e4,e5⟩=>.inr ⟨T,[x1,y1],[x,y],rfl,e1,e2,e3,?_⟩⟩
   have f1:=e4 us (sqt_same s h1)
   have f2:=e5 ws (sqt_same s h3)
   rw[hu]at f1;rw[hz]at f2
   cases f1
   cases f2
   exact .cons ru (.cons rz .nil)
theorem alY {tpos:Pos}{elts:List Expr}{kk:Nat}(hg:Gl c.X "zip") (hm:c.X.mg "zip"=none) (h:JA c n [a,b] gs)
  (hs:starEach [a,b] c.X.env=(false,eval a c.X.env)::starEach [b] c.X.env:=by rfl) (hpl:(backTo pos (starEach [b] c.X.env)).any (·.1)=false:=by rfl) :
  JI c n (.Tuple elts kk tpos) (.Call (.Name "zip" p) [a,b] [] pos) (λ L=>(gs L).bind asZip):=by
 obtain⟨t,q,k⟩:=h;refine⟨_,RZ.pi_zipA hg hm q hs hpl,λ G F ow σ H L Rr=>(k G F ow σ H L Rr).bind1 (t2:=λ vs H1 Q=>∃ a b xs ys,vs=[.ref a,.ref b]/\((SqL c.X.K H1 a xs/\SqL c.X.K H1 b ys/\Q (Itz c.X.K a b) H1)∨(SqT c.X.K H1 a xs/\SqT c.X.K H1 b ys/\Q (RZ.ItzT c.X.K a b) H1))) λ ds L1 vs H1 F1 ow1 _ _ _ R1 b1=>?_⟩;show Post c G true F1 H1 σ (asZip ds L1) _ _;unfold asZip
 split
 ·exact adg R1 b1
 ·exact adh R1 b1
 ·trivial
end
section
variable {c:Ct}{n n1 n2:Bool}{a b e:Expr}{es:List Expr}{ga gb:LS->R D}{gs:LS->R (List D)}{pos p p2:Pos}
end
section
variable {b:Bool}{i:Int}{s:Str}{xs:List D}
theorem adi:isTy "bool" .none=some (.bool false):=by
 show(kitB "NoneType" "bool").map PyData.bool=_;rw[show kitB "NoneType" "bool"=some false from by decide +kernel]
 rfl
theorem agj:isTy "int" .none=some (.bool false):=by
 show(kitB "NoneType" "int").map PyData.bool=_;rw[show kitB "NoneType" "int"=some false from by decide +kernel]
 rfl
theorem agk:isTy "str" .none=some (.bool false):=by
 show(kitB "NoneType" "str").map PyData.bool=_;rw[show kitB "NoneType" "str"=some false from by decide +kernel]
 rfl
theorem adk:isTy "list" .none=some (.bool false):=by
 show(kitB "NoneType" "list").map PyData.bool=_;rw[show kitB "NoneType" "list"=some false from by decide +kernel]
 rfl
theorem abH:isTy "tuple" .none=some (.bool false):=by
 show(kitB "NoneType" "tuple").map PyData.bool=_;rw[show kitB "NoneType" "tuple"=some false from by decide +kernel]
 rfl
theorem adl:isTy "bool" (.bool b)=some (.bool true):=by
 show(kitB "bool" "bool").map PyData.bool=_;rw[show kitB "bool" "bool"=some true from by decide +kernel]
 rfl
theorem agl:isTy "int" (.bool b)=some (.bool true):=by
 show(kitB "bool" "int").map PyData.bool=_;rw[show kitB "bool" "int"=some true from by decide +kernel]
 rfl
theorem agm:isTy "str" (.bool b)=some (.bool false):=by
 show(kitB "bool" "str").map PyData.bool=_;rw[show kitB "bool" "str"=some false from by decide +kernel]
 rfl
theorem adm:isTy "list" (.bool b)=some (.bool false):=by
 show(kitB "bool" "list").map PyData.bool=_;rw[show kitB "bool" "list"=some false from by decide +kernel]
 rfl
theorem abI:isTy "tuple" (.bool b)=some (.bool false):=by
 show(kitB "bool" "tuple").map PyData.bool=_;rw[show kitB "bool" "tuple"=some false from by decide +kernel]
 rfl
theorem adn:isTy "bool" (.int i)=some (.bool false):=by
 show(kitB "int" "bool").map PyData.bool=_;rw[show kitB "int" "bool"=some false from by decide +kernel]
 rfl
theorem agn:isTy "int" (.int i)=some (.bool true):=by
 show(kitB "int" "int").map PyData.bool=_;rw[show kitB "int" "int"=some true from by decide +kernel]
 rfl
theorem ago:isTy "str" (.int i)=some (.bool false):=by
 show(kitB "int" "str").map PyData.bool=_;rw[show kitB "int" "str"=some false from by decide +kernel]
 rfl
theorem ado:isTy "list" (.int i)=some (.bool false):=by
 show(kitB "int" "list").map PyData.bool=_;rw[show kitB "int" "list"=some false from by decide +kernel]
 rfl
theorem abJ:isTy "tuple" (.int i)=some (.bool false):=by
 show(kitB "int" "tuple").map PyData.bool=_;rw[show kitB "int" "tuple"=some false from by decide +kernel]
 rfl
theorem adp:isTy "bool" (.str s)=some (.bool false):=by
 show(kitB "str" "bool").map PyData.bool=_;rw[show kitB "str" "bool"=some false from by decide +kernel]
 rfl
theorem agp:isTy "int" (.str s)=some (.bool false):=by
 show(kitB "str" "int").map PyData.bool=_;rw[show kitB "str" "int"=some false from by decide +kernel]
 rfl
theorem agq:isTy "str" (.str s)=some (.bool true):=by
 show(kitB "str" "str").map PyData.bool=_;rw[show kitB "str" "str"=some true from by decide +kernel]
 rfl
theorem adq:isTy "list" (.str s)=some (.bool false):=by
 show(kitB "str" "list").map PyData.bool=_;rw[show kitB "str" "list"=some false from by decide +kernel]
 rfl
theorem abK:isTy "tuple" (.str s)=some (.bool false):=by
 show(kitB "str" "tuple").map PyData.bool=_;rw[show kitB "str" "tuple"=some false from by decide +kernel]
 rfl
theorem adt:isTy "bool" (.list xs)=some (.bool false):=by
 show(kitB "list" "bool").map PyData.bool=_;rw[show kitB "list" "bool"=some false from by decide +kernel]
 rfl
theorem agr:isTy "int" (.list xs)=some (.bool false):=by
 show(kitB "list" "int").map PyData.bool=_;rw[show kitB "list" "int"=some false from by decide +kernel]
 rfl
theorem ags:isTy "str" (.list xs)=some (.bool false):=by
 show(kitB "list" "str").map PyData.bool=_;rw[show kitB "list" "str"=some false from by decide +kernel]
 rfl
theorem adu:isTy "list" (.list xs)=some (.bool true):=by
 show(kitB "list" "list").map PyData.bool=_;rw[show kitB "list" "list"=some true from by decide +kernel]
 rfl
theorem abL:isTy "tuple" (.list xs)=some (.bool false):=by
 show(kitB "list" "tuple").map PyData.bool=_;rw[show kitB "list" "tuple"=some false from by decide +kernel]
 rfl
theorem adw:isTy "bool" (.tuple xs)=some (.bool false):=by
 show(kitB "tuple" "bool").map PyData.bool=_;rw[show kitB "tuple" "bool"=some false from by decide +kernel]
 rfl
theorem agt:isTy "int" (.tuple xs)=some (.bool false):=by
 show(kitB "tuple" "int").map PyData.bool=_;rw[show kitB "tuple" "int"=some false from by decide +kernel]
 rfl
theorem agu:isTy "str" (.tuple xs)=some (.bool false):=by
 show(kitB "tuple" "str").map PyData.bool=_;rw[show kitB "tuple" "str"=some false from by decide +kernel]
 rfl
theorem adx:isTy "list" (.tuple xs)=some (.bool false):=by
 show(kitB "tuple" "list").map PyData.bool=_;rw[show kitB "tuple" "list"=some false from by decide +kernel]
 rfl
theorem abM:isTy "tuple" (.tuple xs)=some (.bool true):=by
 show(kitB "tuple" "tuple").map PyData.bool=_;rw[show kitB "tuple" "tuple"=some true from by decide +kernel]
 rfl
end
theorem alZ:dIs .none .none=some (.bool true):=rfl
theorem al0 (i:Int):dIs (.int i) .none=some (.bool false):=rfl
theorem al1 (i:Bool):dIs (.bool i) .none=some (.bool false):=rfl
theorem al2 (i:Str):dIs (.str i) .none=some (.bool false):=rfl
theorem al3 (i:List D):dIs (.list i) .none=some (.bool false):=rfl
theorem al4 (i:List D):dIs (.tuple i) .none=some (.bool false):=rfl
theorem aoa (i j:Bool):dNe (.bool i) (.bool j)=some (.bool (!decide (i=j))):=by
 unfold dNe;rw[if_pos (.inl rfl),aaZ]
def aK {α:Type}(f:List D->Option α)(r:R (List D)):R α:=r.bind λ ds L1=>ofO (f ds) L1
theorem apg {α:Type}(f:List D->Option α)(gs:LS->R (List D))(L:LS):gA f gs L=aK f (gs L):=rfl
theorem aob {α:Type}(f:List D->Option α)(ds:List D)(L:LS):aK f (.ok ds L)=ofO (f ds) L:=rfl
theorem al5 {α:Type}(f:List D->Option α)(e:Nat)(L:LS):aK f (.err e L)=.err e L:=rfl
theorem ajh (i j:Int):dMin [.int i,.int j]=some (.int (min i j)):=by
 show some (PyData.int (if j < i then j else i))=_
 congr 2
 by_cases h:j < i
 ·rw[if_pos h];omega
 ·rw[if_neg h];omega
theorem aji (i j:Int):dMax [.int i,.int j]=some (.int (max i j)):=by
 show some (PyData.int (if j > i then j else i))=_
 congr 2
 by_cases h:j > i
 ·rw[if_pos h];omega
 ·rw[if_neg h];omega
theorem ajj (xs ys:List D)(L:LS):asZip [.list xs,.list ys] L=.ok (zipD xs ys) L:=rfl
theorem ajk (xs ys:List D)(L:LS):asZip [.tuple xs,.tuple ys] L=.ok (zipD xs ys) L:=rfl
def ajl (i:Nat)(o:Option (Option S))(g:LS->R D)(L:LS):R D:=match o with
 | some (some (.ol _))=>(g L).bind (popAt i)
 | _=>.stuck
theorem al6 (i:Nat)(g:LS->R D)(L:LS):gPopAt i g L=ajl i L[i]? g L:=by
 unfold gPopAt gOwnD ajl
 cases L[i]? with
 | none=>rfl
 | some o=>cases o with
  | none=>rfl
  | some s=>cases s<;>rfl
def aoc (i:Nat)(r:R D):R D:=r.bind (popAt i)
theorem agv (i:Nat)(ds:List D)(g:LS->R D)(L:LS):ajl i (some (some (.ol ds))) g L=aoc i (g L):=rfl
def eqs (k:Str)(v:Value):Bool:=match v with
 | .str n _=>n.cps.toList == k.cps.toList
 | _=>false
theorem yf {k:Str}{t:Tok}:∀ {us:List Value} {ys:List Str},Vals (ys.map V.str) us->∀ y∈us,MeetsSeq.EqGives y (.str k t) (eqs k y)
 | _,[],.nil=>λ y hy=>by cases hy
 | _,x::ys,.cons ⟨t',e⟩ h=>λ y hy=>by
  rcases List.mem_cons.mp hy with e2 | e2
  ·rw[e2,e];exact SeqRoads2.EqGives.str x k t' t
  ·exact yf h y e2
def iK (k:Str)(ys:List Str):Nat:=ys.countP λ y=>y.cps.toList == k.cps.toList
theorem yg {k:Str}:∀ {us:List Value} {ys:List Str},Vals (ys.map V.str) us->us.countP (eqs k)=iK k ys
 | _,[],.nil=>rfl
 | _,x::ys,.cons ⟨t',e⟩ h=>by
  have ih:=yg (k:=k) h
  unfold iK at *;rw[List.countP_cons,List.countP_cons,ih,e]
  rfl
def rCntS (K:W.Frag):V->List V->Hp->VK->Prop:=λ x xs H Q=>∃ (p:Addr) (ys:List Str) (k:Str),x=.ref p/\xs=[.str k]/\SqL K H p (ys.map V.str)/\Q (.int (iK k ys:Nat)) H
theorem ady {X:Cx}:MtR X "list.count" (rCntS X.K):=by
 intro pins s σ H x xs v us Q I rx rxs h;obtain⟨p,ys,k,rfl,rfl,hs,q⟩:=h
 cases rx
 obtain⟨u,rfl,ru⟩:=rxs.one;obtain⟨t,rfl⟩:=ru;obtain⟨its,rv,⟨⟨cls,dd,data,sl⟩,n,ho,hc,hdn,hd⟩,hlen⟩:=I.list hs
 simp only at hc hd
 subst hc hd
 refine call_meets PySem.F.slot_list_count ⟨_,ho,rfl⟩ PySem.F.entry_list_count (PySem.F.args_list_count_2 _ _)
  (SeqAt.list_countAt p its.toArray n dd sl (.str k t) (eqs k)) ⟨ho,λ y hy=>(yf rv y (by simpa using hy)).at _ _,?_⟩
 have ec:its.toArray.toList.countP (eqs k)=iK k ys:=yg rv
 refine⟨.int (iK k ys:Nat),H,I.tok _,⟨s.toks,?_⟩,q⟩;show Value.int ((its.toArray.toList.countP (eqs k):Nat):Int) s.toks=Value.int ((iK k ys:Nat):Int) s.toks;rw[ec]
def dCount:D->D->Option D
 | .list ds,.str k=>(strsOf ds).map λ ys=>.int (iK k ys:Nat)
 | _,_=>none
def cntL (gb:LS->R D):D->LS->R D
 | .list ds,L1=>(gb L1).bind λ e L2=>ofO (dCount (.list ds) e) L2
 | _,_=>.stuck
def gCount (ga gb:LS->R D):LS->R D:=λ L=>(ga L).bind (cntL gb)
def al7 (gb:LS->R D)(r:R D):R D:=r.bind (cntL gb)
def al8 (ds:List D)(r:R D):R D:=r.bind λ e L2=>ofO (dCount (.list ds) e) L2
theorem al9 (ga gb:LS->R D)(L:LS):gCount ga gb L=al7 gb (ga L):=rfl
theorem agw (gb:LS->R D)(ds:List D)(L:LS):al7 gb (.ok (.list ds) L)=al8 ds (gb L):=rfl
theorem agx (ds:List D)(e:D)(L:LS):al8 ds (.ok e L)=ofO (dCount (.list ds) e) L:=rfl
section
variable {c:Ct}{n n1 n2:Bool}{a b e:Expr}{es:List Expr}{ga gb:LS->R D}{gs:LS->R (List D)}{pos p p2 apos:Pos}
theorem adz (ha:JV c n1 a ga)(hb:JD c true b gb)
  (hbase:attributeBase a "count" c.X.env (eval a c.X.env)=eval a c.X.env:=by rfl)
  (hfew:((backTo pos (starEach [b] c.X.env)).all (λ x=>!x.1)&&(backToKw pos (keywordEach [] c.X.env)).all (λ x=>x.1.isSome)&&decide ([b].length+([]:List Keyword).length+(if([]:List Keyword).isEmpty then 0 else 1) < 30))=true:=by rfl)
  (hline:(apos.endLine == pos.line)=true:=by rfl) (hs:starEach [b] c.X.env=(false,eval b c.X.env)::starEach [] c.X.env:=by rfl) (hplain:(backTo pos (starEach [] c.X.env)).any (·.1)=false:=by rfl) :
  JD c n1 (.Call (.Attribute a "count" apos) [b] [] pos) (gCount ga gb):=by
 obtain⟨ta,p1,q1⟩:=ha;obtain⟨tb,p2,q2⟩:=hb;refine⟨_,pe_bm PySem.F.plainAttrs_list PySem.F.slot_list_count PySem.F.type_list_count ady p1 (pa_cons p2 pa_nil hs) hbase hfew hline hs hplain,λ G F ow σ H L Rr=>?_⟩;refine(q1 G F ow σ H L Rr).bind1 (t2:=λ v H1 Q=>tyV c.X.K "list" v H1/\tb σ H1 λ y H2=>rCntS c.X.K v [y] H2 Q) λ d L1 v H1 F1 ow1 _ _ _ R1 b1=>?_
 cases d with
 | list ds =>
  obtain⟨l,vs,rfl,h1,h2⟩:=adf R1 b1
  have key:=(q2 G F1 ow1 σ H1 L1 R1).bind1 (k:=λ e L2=>ofO (dCount (.list ds) e) L2) (B2:=BD c.X.K) (t2:=λ y H2 Q=>rCntS c.X.K (.ref l) [y] H2 Q) λ e L2 u H2 F2 ow2 _ e2 s2 R2 b2=>by
   cases b2 with
   | str k =>
    show Post c G true F2 H2 σ (ofO ((strsOf ds).map λ ys=>PyData.int (iK k ys:Nat)) L2) _ _
    cases hk:strsOf ds with
    | none=>trivial
    | some ys =>
     have e3:=tG h2 hk
     exact(Post.val (a:=PyData.int (iK k ys:Nat)) (b:=V.int (iK k ys:Nat)) (B:=BD c.X.K) R2 (.int _)).imp λ Q q=>⟨l,ys,k,rfl,rfl,by rw[←e3];exact sql_same (s2 rfl) h1,q⟩
   | _=>trivial
  exact key.imp λ Q q=>⟨.inl ⟨rfl,_,h1⟩,q⟩
 | _=>trivial
end
def evs:=And.intro @iy (And.intro @d9 (And.intro @acO (And.intro @ais (And.intro @ait (And.intro @afz (And.intro @acP (And.intro @ev_if (And.intro @aaU (And.intro @aiu (And.intro @alg (And.intro @aiv (And.intro @afA (And.intro @alh (And.intro @aiw (And.intro @afB (And.intro @aix (And.intro @aiy (And.intro @afC (And.intro @acQ (And.intro @ev_c (And.intro @ape (And.intro @anw (And.intro @ali (And.intro @anx (And.intro @anz (And.intro @anA (And.intro @aiz (And.intro @ev_op (And.intro @aiA (And.intro @afD (And.intro @aiB (And.intro @afE (And.intro @ev_un (And.intro @alj (And.intro @aiC (And.intro @alk (And.intro @apf (And.intro @anD (And.intro @alm (And.intro @aln (And.intro @aiD (And.intro @afF (And.intro @anE (And.intro @alo (And.intro @aiE (And.intro @alp (And.intro @aiF (And.intro @ev_andV (And.intro @afG (And.intro @ev_orV (And.intro @aiG (And.intro @alq (And.intro @aiH (And.intro @alr (And.intro @acT (And.intro @acU (And.intro @abE (And.intro @acV (And.intro @abF (And.intro @als (And.intro @aiI (And.intro @alu (And.intro @aiJ (And.intro @ev_var (And.intro @alv (And.intro @alw (And.intro @aiK (And.intro @aiL (And.intro @aiM (And.intro @aiN (And.intro @aiO (And.intro @aiP (And.intro @aiQ (And.intro @alx (And.intro @aly (And.intro @aiR (And.intro @afH (And.intro @aiS (And.intro @o8 (And.intro @pW (And.intro @alz (And.intro @alA (And.intro @alB (And.intro @alC (And.intro @alD (And.intro @alE (And.intro @alF (And.intro @alG (And.intro @alH (And.intro @afI (And.intro @afJ (And.intro @acW (And.intro @afK (And.intro @afL (And.intro @aiU (And.intro @aiV (And.intro @aiW (And.intro @aiX (And.intro @aiY (And.intro @anG (And.intro @aiZ (And.intro @ai0 (And.intro @ai1 (And.intro @anH (And.intro @anI (And.intro @alK (And.intro @ai2 (And.intro @ai3 (And.intro @acX (And.intro @acY (And.intro @alN (And.intro @afM (And.intro @afN (And.intro @acZ (And.intro @afO (And.intro @anK (And.intro @anL (And.intro @anM (And.intro @ai5 (And.intro @afP (And.intro @ai6 (And.intro @ai7 (And.intro @afQ (And.intro @ev_call (And.intro @afR (And.intro @afS (And.intro @afT (And.intro @afU (And.intro @afV (And.intro @afW (And.intro @afX (And.intro @afY (And.intro @afZ (And.intro @af0 (And.intro @af1 (And.intro @af2 (And.intro @af3 (And.intro @af4 (And.intro @af5 (And.intro @af6 (And.intro @ac0 (And.intro @af7 (And.intro @ac1 (And.intro @af8 (And.intro @af9 (And.intro @ac2 (And.intro @ac3 (And.intro @zR (And.intro @aga (And.intro @alO (And.intro @alP (And.intro @aaW (And.intro @agb (And.intro @agc (And.intro @ac4 (And.intro @ai8 (And.intro @ai9 (And.intro @ac5 (And.intro @aaX (And.intro @wj (And.intro @ye (And.intro @pX (And.intro @agd (And.intro @age (And.intro @wk (And.intro @ac6 (And.intro @zU (And.intro @ac7 (And.intro @ac8 (And.intro @ac9 (And.intro @aja (And.intro @ajb (And.intro @agf (And.intro @ajc (And.intro @ada (And.intro @ajd (And.intro @agg (And.intro @adb (And.intro @anN (And.intro @alQ (And.intro @adc (And.intro @abG (And.intro @alR (And.intro @aaY (And.intro @anO (And.intro @anP (And.intro @anQ (And.intro @anR (And.intro @anS (And.intro @anT (And.intro @anU (And.intro @anV (And.intro @anW (And.intro @anY (And.intro @alS (And.intro @alT (And.intro @alU (And.intro @ajf (And.intro @ajg (And.intro @anZ (And.intro @alX (And.intro @adi (And.intro @agj (And.intro @agk (And.intro @adk (And.intro @abH (And.intro @adl (And.intro @agl (And.intro @agm (And.intro @adm (And.intro @abI (And.intro @adn (And.intro @agn (And.intro @ago (And.intro @ado (And.intro @abJ (And.intro @adp (And.intro @agp (And.intro @agq (And.intro @adq (And.intro @abK (And.intro @adt (And.intro @agr (And.intro @ags (And.intro @adu (And.intro @abL (And.intro @adw (And.intro @agt (And.intro @agu (And.intro @adx (And.intro @abM (And.intro @alZ (And.intro @al0 (And.intro @al1 (And.intro @al2 (And.intro @al3 (And.intro @al4 (And.intro @aoa (And.intro @apg (And.intro @aob (And.intro @al5 (And.intro @ajh (And.intro @aji (And.intro @ajj (And.intro @ajk (And.intro @al6 (And.intro @agv (And.intro @al9 (And.intro @agw (And.intro @agx (And.intro @afk (And.intro @afe (And.intro @afg (And.intro @List.getElem?_cons_zero.{0} (And.intro @List.getElem?_cons_succ.{0} (And.intro @List.set_cons_zero.{0} (And.intro @List.set_cons_succ.{0} (And.intro @List.length_cons.{0} (And.intro @List.length_nil.{0} (And.intro @List.cons_append.{0} (And.intro @List.nil_append.{0} (And.intro @List.replicate_succ.{0} (And.intro @List.replicate_zero.{0} (And.intro @List.map_cons.{0,0} (And.intro @List.map_nil.{0,0} (And.intro @Option.join_some.{0} (And.intro @List.append_nil.{0} (And.intro @if_true.{1} (And.intro @if_false.{1} (And.intro @decide_true (And.intro @decide_false (And.intro @Bool.false_eq_true (And.intro @Bool.not_true (@Bool.not_false))))))))))))))))))))))))))))))))))))))))))))))))))))))))))))))))))))))))))))))))))))))))))))))))))))))))))))))))))))))))))))))))))))))))))))))))))))))))))))))))))))))))))))))))))))))))))))))))))))))))))))))))))))))))))))))))))))))))))))))))))))))))))))))))))))))))))))))))))
def keyD:D->Option Key
 | .int i=>some (.inl i)
 | .str x=>some (.inr x)
 | _=>none
def keysL:List D->Option (List Key)
 | []=>some []
 | d::ds=>(keyD d).bind λ k=>(keysL ds).map (k::·)
def keysD:D->Option (List Key)
 | .tuple ds=>keysL ds
 | _=>none
theorem zX {K:W.Frag}{F:Hp}{v:V}{d:D}{k:Key}(h:Dq K F v d)(e:keyD d=some k):v=kV k:=by
 cases h<;>cases e<;>rfl
theorem aa0 {K:W.Frag}{F:Hp}:∀ {ds:List D} {vs:List V} {ks:List Key},DqA K F vs ds->keysL ds=some ks->vs=ks.map kV
 | [],_,_,.nil,h=>by cases h;rfl
 | d::ds,_,ks,.cons a b,h=>by
  have h:(keyD d).bind (λ k=>(keysL ds).map (k::·))=some ks:=h
  cases e1:keyD d with
  | none=>rw[e1]at h;cases h
  | some k =>
   rw[e1]at h
   have h:(keysL ds).map (k::·)=some ks:=h
   cases e2:keysL ds with
   | none=>rw[e2]at h;cases h
   | some ms =>
    rw[e2]at h
    cases h
    rw[zX a e1,aa0 b e2]
    rfl
def OptOk (K:W.Frag)(F:Hp)(o:Option V)(r:Option D):Prop:=match r with
 | some z=>∃ v,o=some v/\Dq K F v z
 | none=>o=none
section
variable {κ:Type}[DecidableEq κ]
def valK (kvs:List (κ×D))(k:κ):Option D:=(kvs.find? λ kv=>decide (kv.1=k)).map (·.2)
def putD (kvs:List (κ×D))(k:κ)(d:D):List (κ×D):=if(kvs.any λ kv=>decide (kv.1=k))=true then kvs.map (λ kv=>if kv.1=k then(kv.1,d) else kv) else kvs++[(k,d)]
theorem DqK.val {K:W.Frag}{F:Hp}:∀ {vs:List (κ×V)} {ds:List (κ×D)} (k:κ),DqK K F vs ds->OptOk K F (valV vs k) (valK ds k)
 | [],[],k,.nil=>rfl
 | p::vs,q::ds,k,.cons h r=>by
  have ih:=DqK.val k r
  unfold valK valV at *
  by_cases hk:q.1=k
  ·rw[List.find?_cons_of_pos (l:=vs) (by simp[h.1,hk]),List.find?_cons_of_pos (l:=ds) (by simp[hk])]
   exact⟨_,rfl,h.2⟩
  ·rw[List.find?_cons_of_neg (l:=vs) (by simp[h.1,hk]),List.find?_cons_of_neg (l:=ds) (by simp[hk])]
   exact ih
theorem DqK.any {K:W.Frag}{F:Hp}(k:κ):∀ {vs:List (κ×V)} {ds:List (κ×D)},DqK K F vs ds->(vs.any λ kv=>decide (kv.1=k))=(ds.any λ kv=>decide (kv.1=k))
 | [],[],.nil=>rfl
 | p::vs,q::ds,.cons h r=>by
  rw[List.any_cons,List.any_cons,DqK.any k r,h.1]
theorem DqK.mapk {K:W.Frag}{F:Hp}(k:κ){v:V}{d:D}(hv:Dq K F v d):∀ {vs:List (κ×V)} {ds:List (κ×D)},DqK K F vs ds->DqK K F (vs.map λ kv=>if kv.1=k then(kv.1,v) else kv) (ds.map λ kv=>if kv.1=k then(kv.1,d) else kv)
 | [],[],.nil=>.nil
 | p::vs,q::ds,.cons h r=>by
  refine .cons ?_ (DqK.mapk k hv r)
  show(if p.1=k then(p.1,v) else p).1=(if q.1=k then(q.1,d) else q).1/\Dq K F (if p.1=k then(p.1,v) else p).2 (if q.1=k then(q.1,d) else q).2
  by_cases hk:q.1=k
  ·rw[if_pos hk,if_pos (h.1.trans hk)]
   exact⟨h.1,hv⟩
  ·rw[if_neg hk,if_neg (λ z=>hk (h.1.symm.trans z))]
   exact h
theorem DqK.snoc {K:W.Frag}{F:Hp}{k:κ}{v:V}{d:D}(hv:Dq K F v d):∀ {vs:List (κ×V)} {ds:List (κ×D)},DqK K F vs ds->DqK K F (vs++[(k,v)]) (ds++[(k,d)])
 | [],[],.nil=>.cons ⟨rfl,hv⟩ .nil
 | p::vs,q::ds,.cons h r=>.cons h (DqK.snoc hv r)
theorem DqK.put {K:W.Frag}{F:Hp}{vs:List (κ×V)}{ds:List (κ×D)}(k:κ){v:V}{d:D}(h:DqK K F vs ds)(hv:Dq K F v d):DqK K F (putK vs k v) (putD ds k d):=by
 unfold putK putD
 rw[DqK.any k h]
 split
 ·exact DqK.mapk k hv h
 ·exact DqK.snoc hv h
theorem DqK.len {K:W.Frag}{F:Hp}:∀ {vs:List (κ×V)} {ds:List (κ×D)},DqK K F vs ds->vs.length=ds.length
 | [],[],.nil=>rfl
 | p::vs,q::ds,.cons h r=>congrArg (·+1) (DqK.len r)
end
def dictAt (s:Option (Option S))(d:D):Option (Option D):=match s with
 | some (some (.odT kvs))=>(keysD d).map (valK kvs)
 | some (some (.odK kvs))=>(keyD d).map (valK kvs)
 | _=>none
section
variable {c:Ct}{n n1 n2:Bool}{a b e:Expr}{ga gb:LS->R D}{pos p:Pos}
theorem agy {G F H:Hp}{ow:Addr->Option Path}{σ:L2.St}{L:LS}{i:Nat}{d:D}{y:V}{r:Option D}(Rr:c.Rl G F ow σ H L)(hd:Dq c.X.K F y d)(h:dictAt L[i]? d=some r) :
  ∃ l o,σ[i]?=some (some (.ref l))/\DGet H l y o/\OptOk c.X.K F o r:=by
 unfold dictAt at h
 split at h
 ·rename_i kvs hL
  obtain⟨v,hv,rs⟩:=Rr.sl i _ hL;obtain⟨ks,hk,rfl⟩:=Option.map_eq_some_iff.mp h
  cases rs with
  | odT h1 h2 h3 =>
   rename_i l vs
   unfold keysD at hk
   split at hk
   ·rename_i ds
    cases hd with
    | tup t1 t2 =>
     rename_i b xs
     have ex:=aa0 t2 hk
     subst ex
     exact⟨l,valV vs ks,hv,DGet.t h1 (Rr.exF _ _ t1),DqK.val ks h3⟩
   ·cases hk
 ·rename_i kvs hL
  obtain⟨v,hv,rs⟩:=Rr.sl i _ hL;obtain⟨k,hk,rfl⟩:=Option.map_eq_some_iff.mp h
  cases rs with
  | odK h1 h2 h3 =>
   rename_i l vs
   have ey:=zX hd hk
   subst ey
   exact⟨l,valV vs k,hv,DGet.k h1,DqK.val k h3⟩
 ·cases h
end
section
variable {c:Ct}{n n1 n2 n3:Bool}{a b:Expr}{ga gb:LS->R D}{ge:LS->R S}{pos:Pos}{es:List Expr}{as:List Ar}
theorem Rl.snoc {G F H:Hp}{ow:Addr->Option Path}{σ:L2.St}{L:LS}{s:S}{v:V}(Rr:c.Rl G F ow σ H L)(rs:RS c.X.K c.ca F H ow [0] s v):c.Rl G F (reroot ow 0 (L.length+1)) (σ++[some v]) H (L++[some s]):=by
 have hl:=Rr.len
 refine Rl.moved Rr (by rw[List.length_append,List.length_append,hl];rfl) (λ k s' h=>?_) λ k u h=>?_
 ·by_cases hk:k < L.length
  ·rw[List.getElem?_append_left hk]at h;refine .inl ⟨h,?_,Nat.succ_ne_zero k⟩;rw[List.getElem?_append_left (by omega)]
  ·have hk2:k=L.length:=by
    have:=(List.getElem?_eq_some_iff.mp h).1
    rw[List.length_append]at this
    simp at this
    omega
   subst hk2
   rw[List.getElem?_append_right (Nat.le_refl _),Nat.sub_self]at h
   cases h
   refine .inr ⟨v,?_,rs.go (Same.refl F) mY⟩;rw[hl,List.getElem?_append_right (Nat.le_refl _),Nat.sub_self]
   rfl
 ·have:=Rr.pin k u h
  have hk:=(List.getElem?_eq_some_iff.mp this).1
  rw[List.getElem?_append_left hk];exact this
theorem AvOk.snoc {K:W.Frag}{σ:L2.St}{F:Hp}{v:V}{k:Nat}(hk:k=σ.length):∀ {xs:List Av} {us:List V},AvOk K σ F xs us->AvOk K (σ++[some v]) F (xs++[.r k]) (us++[v])
 | [],[],.nil=>.cons (by
  show(σ++[some v])[k]?=some (some v)
  rw[hk,List.getElem?_append_right (Nat.le_refl _),Nat.sub_self]
  rfl) .nil
 | .d d::xs,u::us,.cons h r=>.cons h (AvOk.snoc hk r)
 | .r i::xs,u::us,.cons h r=>.cons (by
  have h:σ[i]?=some (some u):=h
  show(σ++[some v])[i]?=some (some u)
  rw[List.getElem?_append_left (List.getElem?_eq_some_iff.mp h).1]
  exact h) (AvOk.snoc hk r)
end
section
variable {c:Ct}{n:Bool}{a:Expr}{ga:LS->R D}{pos p:Pos}
end
section
variable {c:Ct}{n n1 n2 n3:Bool}{a b:Expr}{ga gb:LS->R D}{ge:LS->R S}{pos:Pos}{es:List Expr}{as:List Ar}
end
def gNever:LS->R O:=λ _=>.stuck
section
variable {c:Ct}{n:Bool}{a:Expr}{gs:LS->R (List D)}{p pos:Pos}
theorem lg {e:Option Expr}{cause:Option Expr}{pos:Pos}:JS c (.Raise e cause pos) gNever:=afr
end
def scal:D->Bool
 | .none=>true
 | .bool _=>true
 | .int _=>true
 | .str _=>true
 | _=>false
theorem wz {K:W.Frag}{F F':Hp}{d:D}{v:V}(h:scal d=true)(q:Dq K F v d):Dq K F' v d:=by
 cases q with
 | non=>exact .non
 | bl b=>exact .bl b
 | int i=>exact .int i
 | str x=>exact .str x
 | lst _ _=>cases h
 | tup _ _=>cases h
section
variable {c:Ct}{n n1 n2 n3:Bool}{a b:Expr}{ga gb:LS->R D}{gs:LS->R (List D)}{ge:LS->R S}{pos:Pos}{es:List Expr}
theorem Rl.more {K:W.Frag}{ca:Nat->Addr}{bh:Hp}{pn:List (Option V)}{G F H H':Hp}{ow:Addr->Option Path}{σ:L2.St}{L:LS}(r:Rl K ca bh pn G F ow σ H L)(s:Same H H'):Rl K ca bh pn G F ow σ H' L:=by
 refine⟨r.exF.trans s,r.exG.trans s,λ a p h=>?_,r.dG,r.len,λ i s0 h=>?_,r.pin,r.exB.trans s,r.dB⟩
 ·obtain⟨x,y,z⟩:=r.dF a p h
  refine⟨x,y,?_⟩
  cases q:H a with
  | none=>exact absurd q z.1
  | some o=>rw[s a o q,←q];exact z
 ·obtain⟨v,q1,q2⟩:=r.sl i s0 h
  refine⟨v,q1,q2.go (Same.refl F) λ a w h=>⟨?_,h⟩⟩
  obtain⟨x,y,z⟩:=r.dF a _ h
  cases q:H a with
  | none=>exact absurd q z.1
  | some o=>rw[s a o q]
end
open PySem.W (EachIs AllAlike Sortable dataLe)
def ahM:D->Bool
 | .tuple (_::_)=>true
 | _=>false
def noTup:D->Bool
 | .none=>false
 | .tuple _=>false
 | _=>true
def sortOk (ds:List D):Bool:=(ds.all λ d=>ds.all λ e=>W.alike d e)&&((ds.all ahM||ds.all noTup)&&((ds.all λ d=>decide (d.depth<=60))&&decide (ds.length<=sizeLine)))
section
variable {c:Ct}{n:Bool}{a:Expr}{ga:LS->R D}{p pos:Pos}{k:Nat}
end
end VS
namespace VS
open PySem PySem.Spec PyProof.Rows L2
open PySem.W (EachIs AllAlike Sortable dataLe)
def kD:Key->D
 | .inl i=>.int i
 | .inr x=>.str x
end VS
namespace VS
open PySem PySem.Spec PyProof.Rows L2
open PySem.W (EachIs AllAlike Sortable dataLe)
section
variable {c:Ct}{n:Bool}{a:Expr}{ga:LS->R S}{p pos:Pos}{k:Nat}
end
end VS
namespace VS
open PySem PySem.Spec PyProof.Rows L2
section
variable {c:Ct}{n:Bool}{a:Expr}{ga:LS->R D}{p pos:Pos}
end
end VS
namespace VS
open PySem PySem.Spec PyProof.Rows
def ddAdd (σ:List Str)(x:Str):List Str:=if σ.any (· == x)=true then σ else σ++[x]
def ddS (xs:List Str):List Str:=xs.foldl ddAdd []
theorem adA (σ:List Str)(x:Str):(ddAdd σ x).length=if σ.any (· == x) then σ.length else σ.length+1:=by
 unfold ddAdd
 split<;>simp
theorem tL:∀ (xs σ:List Str),(xs.foldl ddAdd σ).length<=σ.length+xs.length
 | [],σ=>Nat.le_refl _
 | x::xs,σ=>by
  have h1:=tL xs (ddAdd σ x)
  have h2:=adA σ x
  rw[List.foldl_cons,List.length_cons]
  split at h2<;>omega
theorem ama (xs:List Str):(ddS xs).length<=xs.length:=by
 have:=tL xs []
 rw[List.length_nil,Nat.zero_add]at this;exact this
section
variable {prog:Program}{w:World}{A:Around}{R:Result->Shared->Prop}{I:Addr}{fp wr:List Addr}{G:Array GenState->Array GenState->Prop}{n:Nat}{P:Nat->Value->Prop}{St:Nat->Shared->Prop}
end
section
variable {prog:Program}{w:World}{A:Around}{E:Value->Shared->Prop}{s:Shared}
end
end VS
namespace VS
open PySem PySem.Spec PyProof.Rows L2
section
variable {K:W.Frag}{ca:Nat->Addr}{bh:Hp}{pn:List (Option V)}{G F H:Hp}{ow:Addr->Option Path}{σ:L2.St}{L:LS}
end
section
variable {c:Ct}{n:Bool}{a:Expr}{ge ga:LS->R S}{gb:LS->R D}{p pos cpos apos tpos:Pos}{k:Nat}{elts:List Expr}{kk:Nat}
end
section
variable {K:W.Frag}{ca:Nat->Addr}{bh:Hp}{pn:List (Option V)}{G F H:Hp}{ow:Addr->Option Path}{σ:L2.St}{L:LS}{l:Addr}{o:HO}
theorem Rl.newG (r:Rl K ca bh pn G F ow σ H L){l:Addr}{o:HO}(hl:H l=none):Same H (upd H l o)/\Rl K ca bh pn (upd G l o) F ow σ (upd H l o) L:=by
 have e:Same H (upd H l o):=dw hl
 have fN:F l=none:=r.exF.free hl
 have hne:∀ a p,ow a=some p->a≠l:=λ a p h=>jC (r.dF a p h).2.2.1 hl
 refine⟨e,r.exF.trans e,λ a u h=>?_,λ a q h=>?_,λ a u h=>?_,r.len,λ i s h=>?_,r.pin,r.exB.trans e,r.dB⟩
 ·by_cases z:a=l
  ·subst z
   rw[upd_same]at h ⊢;exact h
  ·rw[upd_ne z]at h ⊢;exact r.exG a u h
 ·have z:=hne a q h
  obtain⟨x,y,w⟩:=r.dF a q h;exact⟨x,by rw[upd_ne z];exact y,by rw[upd_ne z];exact w⟩
 ·have z:a≠l:=ne_of_none h fN
  rw[upd_ne z];exact r.dG a u h
 ·obtain⟨v,q1,q2⟩:=r.sl i s h;exact⟨v,q1,q2.go (Same.refl F) λ a w h=>⟨upd_ne (hne a _ h),h⟩⟩
theorem Rl.weakG (r:Rl K ca bh pn (upd G l o) F ow σ H L)(hG:G l=none):Rl K ca bh pn G F ow σ H L:=by
 have hs:∀ a,upd G l o a=none->G a=none:=λ a h=>by
  by_cases z:a=l
  ·subst z
   exact hG
  ·rw[upd_ne z]at h;exact h
 refine⟨r.exF,λ a u h=>?_,λ a q h=>?_,λ a u h=>?_,r.len,r.sl,r.pin,r.exB,r.dB⟩
 ·exact r.exG a u (by rw[upd_ne (ne_of_none h hG)];exact h)
 ·obtain⟨x,y,w⟩:=r.dF a q h;exact⟨x,hs a y,w⟩
 ·rcases r.dG a u h with q | q
  ·exact .inl (hs a q)
  ·exact .inr q
theorem Rl.ownG {p:Path}{u:HO}(r:Rl K ca bh pn (upd G l o) F ow σ H L)(hG:G l=none)(hB:bh l=none)(ho:¬ kT o)(hu:¬ kT u):Rl K ca bh pn G F (onAt ow l p) σ (upd H l u) L:=by
 have hH:H l=some o:=r.exG l o upd_same
 have fN:F l=none:=by
  cases z:F l with
  | none=>rfl
  | some w =>
   have h1:=r.exF l w z
   rw[hH]at h1
   cases h1
   rcases r.dG l _ z with q | q
   ·rw[upd_same]at q;cases q
   ·exact absurd q ho
 have hne:∀ a q,ow a=some q->a≠l:=λ a q h z=>by
  subst z
  have:=(r.dF a q h).2.1
  rw[upd_same]at this
  cases this
 refine⟨λ a w h=>?_,λ a w h=>?_,λ a q h=>?_,λ a w h=>?_,r.len,λ i s h=>?_,r.pin,λ a w h=>?_,λ a q h=>?_⟩
 ·rw[upd_ne (ne_of_none h fN)];exact r.exF a w h
 ·have z:=ne_of_none h hG
  rw[upd_ne z];exact r.exG a w (by rw[upd_ne z];exact h)
 ·by_cases z:a=l
  ·subst z
   exact⟨fN,hG,by rw[upd_same];exact .of hu⟩
  ·rw[iH z]at h;obtain⟨x,y,w⟩:=r.dF a q h;exact⟨x,by rw[upd_ne z]at y;exact y,by rw[upd_ne z];exact w⟩
 ·have z:=ne_of_none h fN
  rcases r.dG a w h with q | q
  ·rw[upd_ne z]at q;exact .inl q
  ·exact .inr q
 ·obtain⟨v,q1,q2⟩:=r.sl i s h;refine⟨v,q1,q2.go (Same.refl F) λ a w h=>?_⟩
  have z:=hne a _ h
  exact⟨upd_ne z,by rw[iH z];exact h⟩
 ·have z:=ne_of_none h hB
  rw[upd_ne z];exact r.exB a w h
 ·by_cases z:a=l
  ·subst z
   exact hB
  ·rw[iH z]at h;exact r.dB a q h
end
section
variable {c:Ct}{n n2:Bool}{a b:Expr}{ga gb:LS->R D}{pos:Pos}
end
section
variable {c:Ct}{n n1 n2:Bool}{a b e:Expr}{es:List Expr}{ga gb:LS->R D}{gs:LS->R (List D)}{pos p p2 apos:Pos}{k:Nat}
end
end VS
namespace PySem
open Sem (wp)
open AutoSeq1 (wpAny_loadPart')
section
variable {prog:Program}{w:World}{A:Around}{E:Value->Shared->Prop}{s:Shared}
end
end PySem
namespace L2
open PySem PySem.Spec PyProof.Rows
section
variable {X:Cx}{e:Expr}{te:St->Hp->(Int->Int->Hp->Prop)->Prop}
end
end L2
namespace VS
open PySem PySem.Spec PyProof.Rows L2
section
variable {c:Ct}{n:Bool}{a:Expr}{gb:LS->R D}{p pos:Pos}
end
end VS
namespace VS
open PySem PySem.Spec PyProof.Rows L2
def PSl (c:Ct)(j:Nat)(e:Expr):Prop:=∃ te:TE,PE c.X e te/\∀ {G F H:Hp} {ow:Addr->Option Path} {σ:L2.St} {L:LS} {v:V},c.Rl G F ow σ H L->σ[j]?=some (some v)->∀ Q:VK,Q v H->te σ H Q
section
variable {c:Ct}{n n1 n2:Bool}{a b e e0:Expr}{ga gb:LS->R D}{pos p apos:Pos}{i j k:Nat}{es:List Expr}
theorem wA {x:Str}(h:PE c.X (.Name x p) (tVar i)):PSl c i (.Name x p):=⟨_,h,λ _ hv Q q=>⟨_,hv,q⟩⟩
end
section
variable {K:W.Frag}{ca:Nat->Addr}{bh:Hp}{pn:List (Option V)}{G F H:Hp}{ow:Addr->Option Path}{σ:L2.St}{L:LS}
end
abbrev Obs:=List (Nat×Nat×List (Str×Nat))
def ObsOk (ca:Nat->Addr)(B:Hp)(obs:Obs)(ws:List V):Prop:=∀ o∈obs,∃ a dx vs,B a=some (.ins (ca o.2.1) dx vs)/\ws[o.1]?=some (.ref a)/\vs.map (·.1)=o.2.2.map (·.1)/\∀ f j,o.2.2.lookup f=some j->∃ v,vs.lookup f=some v/\ws[j]?=some v
def VSg (K:W.Frag)(ca:Nat->Addr)(obs:Obs)(np:Nat)(md:List Bool)(m:LS->R S):Sp:=λ vs H Q E=>vs.length=np/\∃ gv B G F ow ss,(vs++gv).length=md.length/\ss.length=md.length/\ObsOk ca B obs (vs++gv)/\Rl K ca B [] G F ow ((vs++gv).map some) H ss/\match m ss with
 | .ok s L=>∀ v H' F' ow',Same F F'->Rl K ca B [] G F' ow' ((vs++gv).map some) H' L->RS K ca F' H' ow' [0] s v->Q v H'
 | .err e L=>∀ H' F' ow',Same F F'->Rl K ca B [] G F' ow' ((vs++gv).map some) H' L->E (.ref (ca e)) none H'
 | .stuck=>False
def gho (np:Nat)(gv:List V)(σ:L2.St):L2.St:=σ.take np++(gv.map some++σ.drop (np+gv.length))
theorem ajm {np:Nat}{gv:List V}{σ:L2.St}(h:np+gv.length<=σ.length):(gho np gv σ).length=σ.length:=by
 unfold gho;rw[List.length_append,List.length_append,List.length_take,List.length_map,List.length_drop]
 omega
theorem amb {np:Nat}{gv:List V}{σ:L2.St}{k:Nat}(h:np+gv.length<=σ.length)(hk:k < np∨np+gv.length<=k):(gho np gv σ)[k]?=σ[k]?:=by
 unfold gho;rcases hk with hk | hk
 ·rw[List.getElem?_append_left (by rw[List.length_take];omega),List.getElem?_take,if_pos hk]
 ·rw[List.getElem?_append_right (by rw[List.length_take];omega),List.length_take,List.getElem?_append_right (by rw[List.length_map];omega),List.length_map,List.getElem?_drop]
  congr 1
  omega
theorem Inv.gho {X:Cx}{pins:List (Addr×Obj)}{σ:L2.St}{H:Hp}{s:Shared}{np:Nat}{gv:List V}(I:Inv X pins σ H s)(hl:np+gv.length<=X.N.length)
  (hn:∀ (k:Nat) (x:Str),np<=k->k < np+gv.length->X.N[k]?=some x->X.env.scope.names.lookup x=none):Inv X pins (gho np gv σ) H s:=by
 have hσ:np+gv.length<=σ.length:=by rw[I.len];exact hl
 refine { I with loc:=?_,len:=?_ }
 ·obtain⟨m,h1,h2⟩:=I.loc;refine⟨m,h1,λ i x v hN hv hvis=>?_⟩
  have hk:i < np∨np+gv.length<=i:=by
   by_cases z:i < np
   ·exact .inl z
   ·by_cases z2:np+gv.length<=i
    ·exact .inr z2
    ·have:=hn i x (by omega) (by omega) hN
     unfold Vis at hvis;rw[this]at hvis;rcases hvis with w | w | w<;>cases w
  rw[amb hσ hk]at hv;exact h2 i x v hN hv hvis
 ·rw[ajm hσ];exact I.len
section
variable {P:Program}{w:World}{K:W.Frag}{mg:Str->Option Value}{base:Heap}{ca:Nat->Addr}
theorem lW {x qual:Str}{st:Stmt}{f:Addr}{fd:FuncData}{N ps:List Str}{k:Nat}{obs:Obs}{md:List Bool}{g:LS->R O}(F:Fun K x qual st f fd)(S:FnScope N ps (defScope st))(hmd:ps.length<=md.length)(hN:md.length<=N.length)
  (hgh:∀ (k:Nat) (x:Str),ps.length<=k->k < md.length->N[k]?=some x->(defScope st).names.lookup x=none)
  (hb:∀ (cdv:Value) (A:Around) (outer:List Env) (s:Shared) (H:Hp) (E:XK) (ws:List V),Room k (A.deeper (envOfC qual (defScope st) s.heap.objs.size f cdv))->∀ B:Hp,ws.length=md.length->ObsOk ca B obs ws->JB (ctOf P w K mg base ca N qual (defScope st) f cdv A outer s H E md ws B) (defBody st) g) :
  FnOk P w K mg base (L2.CX P w) (k+1) f fd ps (VSg K ca obs ps.length md (runDef md N.length g)):=by
 refine F.okX S (λ vs H Q E h=>h.1) (λ cdv A outer s H vs Q E hr h=>?_);obtain⟨hvl,gv,B,G,F0,ow,ss,hwl,h1,hob,h2,h3⟩:=h;obtain⟨ws,hws⟩:∃ ws,ws=vs++gv:=⟨_,rfl⟩;rw[←hws]at hwl hob h2 h3
 have hgl:vs.length+gv.length=md.length:=by rw[←hwl,hws,List.length_append]
 obtain⟨t,ht,hq⟩:=hb cdv A outer s H E ws hr B hwl hob
 have hNl:ps.length+gv.length<=N.length:=by omega
 refine⟨λ E' σ H'=>t E' (gho ps.length gv σ) H',⟨λ pins s' σ H' D I hh=>ht.run pins s' _ H' D (Inv.gho I hNl λ k x a b c=>hgh k x a (by omega) c) hh⟩,?_⟩
 have hst:gho ps.length gv (L2.start N vs)=ws.map some++List.replicate (N.length - ws.length) none:=by
  unfold gho L2.start;rw[←hvl];rw[List.take_append_of_le_length (by rw[List.length_map];exact Nat.le_refl _),List.take_of_length_le (by rw[List.length_map];exact Nat.le_refl _)];rw[List.drop_append,List.length_map,List.drop_eq_nil_of_le (by rw[List.length_map];omega),List.nil_append,List.drop_replicate,hws,List.map_append,List.append_assoc,List.length_append]
  congr 3
  omega
 have hlv:ss.length=ws.length:=by
  have:=h2.len
  rw[List.length_map]at this;exact this
 have pinv:∀ (i:Nat) (v:V),(pinOf md ws)[i]?=some (some v)->(ws.map some)[i]?=some (some v):=λ i v h=>by
  rw[List.getElem?_map,(jZ h).2]
  rfl
 have R0:Rl K ca B (pinOf md ws) G F0 ow (gho ps.length gv (L2.start N vs)) H (ss++List.replicate (N.length - ss.length) none):=by
  rw[hst];refine⟨h2.exF,h2.exG,h2.dF,h2.dG,?_,λ i s0 hi=>?_,λ i v hi=>?_,h2.exB,h2.dB⟩
  ·rw[List.length_append,List.length_append,List.length_replicate,List.length_replicate,List.length_map,hlv]
  ·have hlt:i < ss.length:=by
    by_cases z:i < ss.length
    ·exact z
    ·rw[List.getElem?_append_right (Nat.le_of_not_lt z),List.getElem?_replicate]at hi
     split at hi<;>cases hi
   rw[List.getElem?_append_left hlt]at hi;obtain⟨v,q1,q2⟩:=h2.sl i s0 hi;refine⟨v,?_,q2⟩;rw[List.getElem?_append_left (by rw[List.length_map];omega)];exact q1
  ·have q:=pinv i v hi
   rw[List.getElem?_append_left (List.getElem?_eq_some_iff.mp q).1];exact q
 have back:∀ {σ':L2.St} {H' F':Hp} {ow':Addr->Option Path} {L:LS},Rl K ca B (pinOf md ws) G F' ow' σ' H' L->Rl K ca B [] G F' ow' (ws.map some) H' (maskL md L):=λ {σ' H' F' ow' L} r=>by
  refine⟨r.exF,r.exG,r.dF,r.dG,?_,λ i s0 hi=>?_,(λ i v hi=>nomatch hi),r.exB,r.dB⟩
  ·rw[pN,List.length_map,hwl]
  ·obtain⟨m1,m2⟩:=pM hi;obtain⟨v,q1,q2⟩:=r.sl i s0 m2
   have hlt:i < ws.length:=by
    have:=(List.getElem?_eq_some_iff.mp m1).1
    omega
   have hpin:=r.pin i ws[i] (v4 m1 (List.getElem?_eq_getElem hlt))
   rw[hpin]at q1
   cases q1
   exact⟨_,by rw[List.getElem?_map,List.getElem?_eq_getElem hlt];rfl,q2⟩
 refine hq G F0 ow _ H _ R0 _ ?_;unfold runDef at h3
 cases hr:g (ss++List.replicate (N.length - ss.length) none) with
 | stuck=>rw[hr]at h3;exact h3
 | err e L =>
  rw[hr]at h3;exact λ σ' H' F' ow' e' R'=>h3 H' F' ow' e' (back R')
 | ok o L =>
  rw[hr]at h3
  cases o with
  | nx=>exact λ σ' H' F' ow' e' R'=>h3 .non H' F' ow' e' (back R') (.d .non)
  | rt s0=>exact λ v σ' H' F' ow' e' R' rs=>h3 v H' F' ow' e' (back R') rs
  | bk=>exact h3.elim
  | ct=>exact h3.elim
end
inductive Ag where
 | d (g:LS->R D)
 | r (i:Nat)
 | o (i:Nat)
section
variable {c:Ct}{n n1 n2 n3:Bool}{a b:Expr}{ga gb:LS->R D}{pos:Pos}{es:List Expr}{as:List Ag}
section
variable {X:Cx}{CX:CXT}{k:Nat}{f C:Addr}{fd:FuncData}{ps:List Str}{sp:Sp}{E:L2.St->XK}{m:Str}{pos apos:Pos}{e o:Expr}{es:List Expr}{ta:TE}{t:TA}
end
end
section
variable {K:W.Frag}{ca:Nat->Addr}{bh:Hp}{pn:List (Option V)}{G F F' H H':Hp}{ow ow':Addr->Option Path}{σ:L2.St}{L:LS}
theorem RF.go (e:Same F F'):∀ {fs:List (Str×S)} {p p':Path} {i:Nat} {vs:List (Str×V)},(∀ j,Keeps H H' ow ow' (p++[j]) (p'++[j]))->RF K ca F H ow p i fs vs->RF K ca F' H' ow' p' i fs vs
 | [],p,p',i,vs,k,h=>by cases h;exact .nil
 | (x,s)::fs,p,p',i,vs,k,h=>by
  cases h with
  | cons a b=>exact .cons (a.go e (k i)) (RF.go e k b)
theorem RF.len:∀ {fs:List (Str×S)} {p:Path} {i:Nat} {vs:List (Str×V)},RF K ca F H ow p i fs vs->vs.map (·.1)=fs.map (·.1)
 | [],p,i,vs,h=>by cases h;rfl
 | (x,s)::fs,p,i,vs,h=>by
  cases h with
  | cons a b=>rw[List.map_cons,List.map_cons,RF.len b]
theorem RF.at_:∀ {fs:List (Str×S)} {p:Path} {i:Nat} {vs:List (Str×V)} {m:Nat} {f:Str} {s:S},RF K ca F H ow p i fs vs->fs[m]?=some (f,s)->∃ v,vs[m]?=some (f,v)/\RS K ca F H ow (p++[i+m]) s v
 | [],p,i,vs,m,f,s,h,e=>by cases e
 | (x,y)::fs,p,i,vs,0,f,s,h,e=>by
  cases h with
  | cons a b =>
   cases e
   exact⟨_,rfl,a⟩
 | (x,y)::fs,p,i,vs,m+1,f,s,h,e=>by
  cases h with
  | cons a b =>
   obtain⟨v,h1,h2⟩:=RF.at_ (m:=m) b e;refine⟨v,h1,?_⟩;rw[show i+(m+1)=i+1+m by omega];exact h2
end
def putS (f:Str)(s:S):List (Str×S)->List (Str×S)
 | []=>[(f,s)]
 | (g,x)::r=>if g=f then(g,s)::r else(g,x)::putS f s r
def idxS (f:Str):List (Str×S)->Nat
 | []=>0
 | (g,_)::r=>if g=f then 0 else idxS f r+1
theorem RF.put {K:W.Frag}{ca:Nat->Addr}{F H:Hp}{ow:Addr->Option Path}{f:Str}{s:S}{v:V}:∀ {fs:List (Str×S)} {p:Path} {i:Nat} {vs:List (Str×V)},RF K ca F H ow p i fs vs->RS K ca F H ow (p++[i+idxS f fs]) s v->RF K ca F H ow p i (putS f s fs) (L2.putF f v vs)
 | [],p,i,vs,h,r=>by
  cases h
  exact .cons r .nil
 | (g,x)::fs,p,i,vs,h,r=>by
  cases h with
  | @cons _ _ _ _ u _ us a b =>
   unfold idxS at r
   show RF K ca F H ow p i (if g=f then(g,s)::fs else(g,x)::putS f s fs) (if g=f then(g,v)::us else(g,u)::L2.putF f v us)
   by_cases hg:g=f
   ·rw[if_pos hg]at r
    rw[if_pos hg,if_pos hg]
    exact .cons r b
   ·rw[if_neg hg]at r
    rw[if_neg hg,if_neg hg]
    refine .cons a (RF.put b ?_)
    rw[show i+1+idxS f fs=i+(idxS f fs+1) by omega]
    exact r
theorem lX {md:List Bool}{ws:List V}(h:ws.length=md.length):∀ k:Nat,md[k]?=some true->k < ws.length:=λ k hk=>by
 rw[h];exact(List.getElem?_eq_some_iff.mp hk).1
def ghOk (N:List Str)(sc:Scope)(js:List Nat):Bool:=js.all λ j=>match N[j]? with
 | some x=>(sc.names.lookup x).isNone
 | none=>true
theorem ajn {N:List Str}{sc:Scope}{js:List Nat}(h:ghOk N sc js=true):∀ j∈js,∀ x,N[j]?=some x->sc.names.lookup x=none:=λ j hj x hx=>by
 have:=List.all_eq_true.mp h j hj
 rw[hx]at this;exact Option.isNone_iff_eq_none.mp this
theorem iQ {N:List Str}{sc:Scope}{np n:Nat}(h:ghOk N sc (List.range' np (n - np))=true):∀ (k:Nat) (x:Str),np<=k->k < n->N[k]?=some x->sc.names.lookup x=none:=λ k x h1 h2 h3=>ajn h k (by rw[List.mem_range'];exact⟨k - np,by omega,by omega⟩) x h3
section
variable {c:Ct}{n:Bool}{as:List Ag}{gs:List Nat}{obs:Obs}{md:List Bool}{m:LS->R S}{ps:List Str}{x:Str}{k j:Nat}{p pos apos:Pos}{e o:Expr}{es:List Expr}
end
theorem iT {P:Program}{w:World}{K:W.Frag}{mg:Str->Option Value}{base:Heap}{ca:Nat->Addr}{k:Nat}{f:Addr}{fd:FuncData}{ps:List Str}{md:List Bool}{m:LS->R S}(h:FnOk P w K mg base (L2.CX P w) k f fd ps (VSg K ca [] ps.length md m))(hl:ps.length=md.length):FnOk P w K mg base (L2.CX P w) k f fd ps (VSp K ca md m):=by
 refine FnOk.imp h λ vs H Q E q=>?_
 have hvl:=VSp.len q
 obtain⟨B,G,F,ow,ss,h1,h2,h3⟩:=q
 refine⟨hvl.trans hl.symm,[],B,G,F,ow,ss,by rw[List.append_nil];exact hvl,h1,λ o ho=>(by cases ho),?_⟩
 rw[List.append_nil]
 exact⟨h2,h3⟩
end VS
namespace VS
open PySem PySem.Spec PyProof.Rows L2
section
variable {c:Ct}{n:Bool}{a e0:Expr}{ga:LS->R D}{pos p:Pos}{i k:Nat}
end
end VS
namespace VS
open PySem PySem.Spec PyProof.Rows L2
section
variable {c:Ct}{n:Bool}{a b d:Expr}{gs:LS->R (List D)}{pos p:Pos}
end
section
variable {K:W.Frag}{ca:Nat->Addr}{bh:Hp}{pn:List (Option V)}{G F H:Hp}{ow:Addr->Option Path}{σ:L2.St}{L:LS}
end
def S.one:S->Bool
 | .ol _=>true
 | .odK _=>true
 | .odT _=>true
 | _=>false
section
variable {c:Ct}{n n1 n2:Bool}{a b e:Expr}{es:List Expr}{ga gb:LS->R D}{gs:LS->R (List D)}{pos p p2:Pos}
end
end VS
namespace L2
open PySem PySem.W PySem.Spec PyProof.Rows
section
variable {X:Cx}{pins:List (Addr×Obj)}{σ:St}{H:Hp}{s:Shared}{d:Addr}{o:Obj}
end
section
variable {P:Program}{w:World}{K:W.Frag}{d:Addr}{o:Obj}{es:Array DictEntry}{ep:Nat}
end
section
variable {X:Cx}{e:Expr}{td:TE}{apos cpos:Pos}
end
end L2
namespace VS
open PySem PySem.Spec PyProof.Rows L2
section
variable {c:Ct}{n:Bool}{a:Expr}{ge ga:LS->R S}{gb:LS->R D}{p pos cpos apos tpos:Pos}{k:Nat}{elts:List Expr}{kk:Nat}
end
open Classical in
def itemOk (d:D):Bool:=scal d||(keysD d).isSome
theorem Rl.ownAt {K:W.Frag}{ca:Nat->Addr}{bh:Hp}{pn:List (Option V)}{G F H:Hp}{ow:Addr->Option Path}{σ:L2.St}{L:LS}(r:Rl K ca bh pn G F ow σ H L){H':Hp}(s:Same H H'){l:Addr}{o:HO}{p:Path}(hl:H l=none)(hl':H' l=some o)(ho:¬ kT o:=by first | exact kT_lst | exact kT_dK | exact kT_dT | exact kT_ins):Rl K ca bh pn G F (onAt ow l p) σ H' L:=by
 have r1:=r.more s
 have owN:∀ q,ow l≠some q:=λ q h=>(r.dF l q h).2.2.1 hl
 refine⟨r1.exF,r1.exG,λ a q h=>?_,r.dG,r.len,λ i s0 h=>?_,r.pin,r1.exB,λ a q h=>?_⟩
 ·by_cases z:a=l
  ·subst z
   exact⟨r.exF.free hl,r.exG.free hl,by rw[hl'];exact .of ho⟩
  ·rw[iH z]at h
   exact r1.dF a q h
 ·obtain⟨v,q1,q2⟩:=r1.sl i s0 h
  refine⟨v,q1,q2.go (Same.refl F) λ a w h=>⟨rfl,?_⟩⟩
  by_cases z:a=l
  ·subst z
   exact absurd h (owN _)
  ·rw[iH z]
   exact h
 ·by_cases z:a=l
  ·subst z
   exact r.exB.free hl
  ·rw[iH z]at h
   exact r.dB a q h
section
variable {c:Ct}{n n1 n2 n3:Bool}{a b:Expr}{ga gb:LS->R D}{gs:LS->R (List D)}{ge:LS->R S}{pos:Pos}{es:List Expr}
end
end VS
namespace VS
open PySem PySem.Spec PyProof.Rows L2
section
variable {c:Ct}
end
theorem kit_ty {K:W.Frag}{t:Value}{T:String}(h1:W.kitMeta T=true)(h3:W.subIn K t (.type T)=some true):W.kitOne K t (.type T)=some true:=by
 unfold W.kitOne
 split
 ·rfl
 ·unfold W.kitCls
  dsimp only
  rw[if_pos h1,h3]
section
variable {c:Ct}{G F H:Hp}{ow:Addr->Option Path}{σ:L2.St}{L:LS}{n:Bool}
end
section
variable {K:W.Frag}{ca:Nat->Addr}{bh:Hp}{pn pn':List (Option V)}{G F F' H H':Hp}{ow ow':Addr->Option Path}{σ σ2:L2.St}{L L':LS}{i C:Nat}{js:List Nat}{fs:List (Str×S)}{a dx:Addr}{vs:List (Str×V)}
end
section
variable {K:W.Frag}{ca:Nat->Addr}{bh:Hp}{G F H:Hp}{ow:Addr->Option Path}{σ:L2.St}{L:LS}
end
section
variable {c:Ct}{n:Bool}{as:List Ar}{md:List Bool}{m:LS->R S}{ps:List Str}{x:Str}{i C k j:Nat}{p pos apos:Pos}{e o:Expr}{es:List Expr}
end
end VS
namespace PySem
open Sem (wp)
section
variable {prog:Program}{w:World}{A:Around}{E:Value->Shared->Prop}{s:Shared}
end
end PySem
namespace L2
open PySem PySem.Spec PyProof.Rows
section
variable {X:Cx}{e:Expr}{te:TE}
end
end L2
namespace VS
open PySem PySem.Spec PyProof.Rows L2
section
variable {c:Ct}{n:Bool}{a:Expr}{ga:LS->R D}{p pos p2 pos2:Pos}
end
section
variable {c:Ct}{n:Bool}{a b:Expr}{gb:LS->R D}{pos:Pos}{i:Nat}
end
section
variable {c:Ct}{n:Bool}{a:Expr}{ga:LS->R D}{pos p:Pos}
theorem qK {T:String}{x:Str}{r:List V->Hp->VK->Prop}{f:D->Option D}(hc:CallR c.X (.type T) r)(hg:Gl c.X x)(hm:c.X.mg x=none)(hv:bootBuiltins x=some (.type T))(ha:JV c n a ga)
  (lf:∀ {G F H:Hp} {ow:Addr->Option Path} {σ:L2.St} {L:LS} {d:D} {v:V},c.Rl G F ow σ H L->BV c.X.K F H ow d v->Post c G true F H σ (ofO (f d) L) (BD c.X.K) (r [v] H))
  (hn:x≠"__name__":=by decide) (hdb:(x == ("__debug__":Str))=false:=by decide) (hs:starEach [a] c.X.env=(false,eval a c.X.env)::starEach [] c.X.env:=by rfl) (hpl:(backTo pos (starEach [] c.X.env)).any (·.1)=false:=by rfl) :
  JD c n (.Call (.Name x p) [a] [] pos) (gUn f ga):=by
 obtain⟨ta,pa,qa⟩:=ha;exact⟨_,pe_callTy hc hg hm hv (pa_cons pa pa_nil hs) hn hdb hs hpl,tE qa lf⟩
def KTx (K:W.Frag)(a:Addr)(zs:List Str):Prop:=∃ (o:Obj) (its:Array Value) (n:Nat),K.lookup a=some o/\o.cls=.type "tuple"/\o.data=.seq its n/\its.size<=sizeLine/\Vals (zs.map V.str) its.toList
theorem rZ {K:W.Frag}{F:Hp}:∀ zs:List Str,DqA K F (zs.map V.str) (zs.map PyData.str)
 | []=>.nil
 | z::zs=>.cons (.str z) (rZ zs)
theorem agz {K:W.Frag}{F H:Hp}{ow:Addr->Option Path}{x:V}{d:D}{z:Bool}{t:Addr}{zs:List Str}(ht:KTx K t zs)(hx:BV K F H ow d x)(hf:dInB d (.tuple (zs.map PyData.str))=some z)(neg:Bool)(Q:VK)(q:Q (.bl (if neg then !z else z)) H):rIn K neg x (.ref t) H Q:=by
 have hf:(if flatD d=true/\(zs.map PyData.str).all flatD=true then some ((zs.map PyData.str).any λ z=>z.eqv d) else none)=some z:=hf
 by_cases h:flatD d=true/\(zs.map PyData.str).all flatD=true
 ·rw[if_pos h]at hf
  cases hf
  rcases hx with hx | ⟨l,vs,ds,rfl,rfl,_,_⟩
  ·rw[←sY hx h.1 (rZ zs) h.2]at q
   exact⟨t,_,rfl,.inr (.inr ht),sX hx h.1,pG (rZ (K:=K) (F:=F) zs) h.2,q⟩
  ·cases h.1
 ·rw[if_neg h]at hf
  cases hf
theorem ajo {ta:TE}{t:Addr}{zs:List Str}(neg:Bool)(ht:KTx c.X.K t zs)(ha:Jdg c n ga BV ta):Jdg c n (gOp (λ d e=>(dInB d e).map λ b=>.bool (if neg then !b else b)) ga (gC (.tuple (zs.map PyData.str)))) BD (tOp (rIn c.X.K neg) ta (tC (.ref t))):=by
 intro G F ow σ H L Rr;refine(ha G F ow σ H L Rr).bind1 (t2:=λ v H1 Q=>rIn c.X.K neg v (.ref t) H1 Q) λ d L1 v H1 F1 ow1 _ _ _ R1 b1=>?_;show Post c G true F1 H1 σ (ofO ((dInB d (.tuple (zs.map PyData.str))).map λ b=>PyData.bool (if neg then !b else b)) L1) _ _
 cases hf:dInB d (.tuple (zs.map PyData.str)) with
 | none=>trivial
 | some z=>exact(Post.val (a:=PyData.bool (if neg then !z else z)) (b:=V.bl (if neg then !z else z)) (B:=BD c.X.K) R1 (.bl _)).imp λ Q q=>agz ht b1 hf neg Q q
theorem yh {x:Str}{zs:List Str}(hg:Gl c.X x)(hm:∃ t,c.X.mg x=some (.ref t)/\KTx c.X.K t zs)(ha:JV c n a ga)(hd:(x == ("__debug__":Str))=false:=by decide):JT c n (.Compare a [.NotIn] [.Name x p] pos) (gB (gOp dNotIn ga (gC (.tuple (zs.map PyData.str))))):=by
 obtain⟨ta,p1,q1⟩:=ha;obtain⟨t,h1,h2⟩:=hm;exact⟨_,pt_cmpR op_notIn_seq p1 (pe_glob (v:=.ref t) hg h1 rfl hd) rfl,afm (ajo true h2 q1)⟩
end
def dTupL:D->Option D
 | .list ds=>some (.tuple ds)
 | _=>none
section
variable {c:Ct}{n:Bool}{a:Expr}{ga:LS->R D}{pos p:Pos}
theorem adB (hg:Gl c.X "tuple") (hm:c.X.mg "tuple"=none) (ha:JV c n a ga) (hs:starEach [a] c.X.env=(false,eval a c.X.env)::starEach [] c.X.env:=by rfl):JD c n (.Call (.Name "tuple" p) [a] [] pos) (gUn dTupL ga) :=
 qK call_tuple_of hg hm (by decide +kernel) ha (λ {G F H ow σ L d v} Rr hb=>by
  rcases hb with hb | ⟨l,vs,ds,rfl,rfl,h1,h2⟩
  ·cases hb with
   | lst h1 h2=>exact(aaM Rr h2).imp λ Q q=>⟨_,_,rfl,.inl ⟨.of (Rr.exF _ _ h1),q⟩⟩
   | _=>trivial
  ·exact(aaM Rr h2).imp λ Q q=>⟨l,vs,rfl,.inl ⟨h1,q⟩⟩) (by decide) (by decide) hs rfl
end
def s1D:S->Option D
 | .d d=>some d
 | .ol ds=>some (.list ds)
 | _=>none
def s1Ds:List S->Option (List D)
 | []=>some []
 | s::ss=>(s1D s).bind λ d=>(s1Ds ss).map (d::·)
inductive Aw where
 | d (g:LS->R D)
 | r (i:Nat)
 | o (i:Nat)
 | t (g:LS->R S)
 | b (g:LS->R D)
 | c (g:LS->R D)
 | e (g:LS->R D)
 | l (i:Nat)
inductive Aq where
 | d (d:D)
 | r (i:Nat)
 | t (s:S)
 | b (d:D)
 | c (d:D)
 | e (d:D)
 | l (i:Nat)
def cQ:List Aw->LS->R (List Aq)
 | [],L=>.ok [] L
 | .d g::as,L=>(g L).bind λ d L1=>(cQ as L1).bind λ xs L2=>.ok (.d d::xs) L2
 | .t g::as,L=>(g L).bind λ d L1=>(cQ as L1).bind λ xs L2=>.ok (.t d::xs) L2
 | .b g::as,L=>(g L).bind λ d L1=>(cQ as L1).bind λ xs L2=>.ok (.b d::xs) L2
 | .c g::as,L=>(g L).bind λ d L1=>(cQ as L1).bind λ xs L2=>.ok (.c d::xs) L2
 | .e g::as,L=>(g L).bind λ d L1=>(cQ as L1).bind λ xs L2=>.ok (.e d::xs) L2
 | .r i::as,L=>match L[i]? with
  | some (some _)=>(cQ as L).bind λ xs L2=>.ok (.r i::xs) L2
  | _=>.stuck
 | .l i::as,L=>match L[i]? with
  | some (some _)=>(cQ as L).bind λ xs L2=>.ok (.l i::xs) L2
  | _=>.stuck
 | .o i::as,L=>(cQ as L).bind λ xs L2=>.ok (.r i::xs) L2
def AqOk (K:W.Frag)(ca:Nat->Addr)(B:Hp)(σ:L2.St)(F H:Hp)(ow:Addr->Option Path):Nat->List Aq->List V->Prop
 | _,[],[]=>True
 | j,x::xs,v::vs=>(match x with
  | .d d=>Dq K F v d
  | .e d=>Dq K F v d
  | .r i=>σ[i]?=some (some v)
  | .l i=>σ[i]?=some (some v)
  | .t s=>RS K ca F H ow [0,j] s v
  | .b d=>Dq K (BF B F) v d
  | .c d=>Dq K (BF B F) v d)/\AqOk K ca B σ F H ow (j+1) xs vs
 | _,_,_=>False
theorem AqOk.len {K:W.Frag}{ca:Nat->Addr}{B:Hp}{σ:L2.St}{F H:Hp}{ow:Addr->Option Path}:∀ {j:Nat} {xs:List Aq} {vs:List V},AqOk K ca B σ F H ow j xs vs->xs.length=vs.length
 | _,[],[],_=>rfl
 | j,x::xs,v::vs,h=>by
  rw[List.length_cons,List.length_cons,AqOk.len (j:=j+1) h.2]
 | _,[],_::_,h=>h.elim
 | _,_::_,[],h=>h.elim
theorem AqOk.get {K:W.Frag}{ca:Nat->Addr}{B:Hp}{σ:L2.St}{F H:Hp}{ow:Addr->Option Path}:∀ {j k:Nat} {xs:List Aq} {vs:List V} {x:Aq},AqOk K ca B σ F H ow j xs vs->xs[k]?=some x->∃ v,vs[k]?=some v/\(match x with
  | .d d=>Dq K F v d
  | .e d=>Dq K F v d
  | .r i=>σ[i]?=some (some v)
  | .l i=>σ[i]?=some (some v)
  | .t s=>RS K ca F H ow [0,j+k] s v
  | .b d=>Dq K (BF B F) v d
  | .c d=>Dq K (BF B F) v d)
 | _,_,[],_,_,_,e=>by cases e
 | j,0,x::xs,v::vs,y,h,e=>by
  cases e
  exact⟨v,rfl,h.1⟩
 | j,k+1,x::xs,v::vs,y,h,e=>by
  obtain⟨u,h1,h2⟩:=AqOk.get (j:=j+1) (k:=k) h.2 (show xs[k]?=some y from e)
  refine⟨u,h1,?_⟩
  rw[show j+(k+1)=j+1+k by omega]
  exact h2
 | _,_,_::_,[],_,h,_=>h.elim
theorem AqOk.move {K:W.Frag}{ca:Nat->Addr}{B:Hp}{σ:L2.St}{F F' H H':Hp}{ow ow':Addr->Option Path}(e:Same F F'):∀ {j:Nat} {xs:List Aq} {vs:List V},(∀ k,Keeps H H' ow ow' [0,k] [0,k])->AqOk K ca B σ F H ow j xs vs->AqOk K ca B σ F' H' ow' j xs vs
 | _,[],[],_,_=>trivial
 | j,x::xs,v::vs,k,h=>by
  refine⟨?_,AqOk.move e (j:=j+1) k h.2⟩
  have h1:=h.1
  cases x with
  | d d=>exact Dq.up e h1
  | e d=>exact Dq.up e h1
  | r i=>exact h1
  | l i=>exact h1
  | t s=>exact RS.go h1 e (k j)
  | b d=>exact Dq.up (BF.up e) h1
  | c d=>exact Dq.up (BF.up e) h1
 | _,[],_::_,_,h=>h.elim
 | _,_::_,[],_,h=>h.elim
def AwOk (as:List Aw)(xs:List Aq):Prop:=xs.length=as.length/\∀ (j i:Nat),as[j]?=some (.o i)->xs[j]?=some (.r i)
theorem agA:AwOk [] []:=⟨rfl,λ j i h=>by cases h⟩
theorem adC {a:Aw}{x:Aq}{as:List Aw}{xs:List Aq}(h:∀ i,a=.o i->x=.r i)(t:AwOk as xs):AwOk (a::as) (x::xs):=⟨congrArg (·+1) t.1,λ j i e=>by
 cases j with
 | zero=>cases e;exact congrArg some (h i rfl)
 | succ j=>exact t.2 j i e⟩
section
variable {c:Ct}{n n1 n2 n3:Bool}{a b:Expr}{ga gb:LS->R D}{gs:LS->R (List D)}{ge:LS->R S}{pos:Pos}{es:List Expr}{as:List Aw}
def lock0G (G H:Hp)(ow:Addr->Option Path):Hp:=λ a=>match ow a with
 | some (0::_)=>H a
 | _=>G a
def qL (ow:Addr->Option Path):Addr->Option Path:=λ a=>match ow a with
 | some (0::_)=>none
 | x=>x
def lY (j:Nat)(ow1 ow2:Addr->Option Path):Addr->Option Path:=λ a=>match ow1 a with
 | some (0::q)=>some (0::j::q)
 | _=>ow2 a
def is0:Option Path->Bool
 | some (0::_)=>true
 | _=>false
theorem iZ {o:Option Path}(h:is0 o=true):∃ q,o=some (0::q):=by
 unfold is0 at h
 split at h
 ·exact⟨_,rfl⟩
 ·cases h
theorem qM {G H:Hp}{ow:Addr->Option Path}{a:Addr}(h:is0 (ow a)=true):lock0G G H ow a=H a:=by
 obtain⟨q,e⟩:=iZ h;unfold lock0G;rw[e]
 rfl
theorem gH {G H:Hp}{ow:Addr->Option Path}{a:Addr}(h:is0 (ow a)=false):lock0G G H ow a=G a:=by
 unfold lock0G;unfold is0 at h
 split at h
 ·cases h
 ·rfl
theorem yj {ow:Addr->Option Path}{a:Addr}(h:is0 (ow a)=true):qL ow a=none:=by
 obtain⟨q,e⟩:=iZ h;unfold qL;rw[e]
 rfl
theorem sr {ow:Addr->Option Path}{a:Addr}(h:is0 (ow a)=false):qL ow a=ow a:=by
 unfold qL;unfold is0 at h
 split at h
 ·cases h
 ·rfl
theorem lZ {j:Nat}{ow1 ow2:Addr->Option Path}{a:Addr}{q:Path}(h:ow1 a=some (0::q)):lY j ow1 ow2 a=some (0::j::q):=by
 unfold lY;rw[h]
 rfl
theorem jG {j:Nat}{ow1 ow2:Addr->Option Path}{a:Addr}(h:is0 (ow1 a)=false):lY j ow1 ow2 a=ow2 a:=by
 unfold lY;unfold is0 at h
 split at h
 ·cases h
 ·rfl
section
variable {K:W.Frag}{ca:Nat->Addr}{bh:Hp}{pn:List (Option V)}{G F F1 F2 H H1 H2:Hp}{ow ow1 ow2:Addr->Option Path}{σ σ2:L2.St}{L L1 L2:LS}
theorem Rl.lock0 (r:Rl K ca bh pn G F ow σ H L):Rl K ca bh pn (lock0G G H ow) F (VS.qL ow) σ H L:=by
 have go:∀ {a:Addr} {p:Path},VS.qL ow a=some p->is0 (ow a)=false/\ow a=some p:=λ {a p} h=>by
  cases z:is0 (ow a) with
  | true=>rw[yj z]at h;cases h
  | false=>exact⟨rfl,by rw[sr z]at h;exact h⟩
 refine⟨r.exF,λ a o h=>?_,λ a p h=>?_,λ a o h=>?_,r.len,λ i s h=>?_,r.pin,r.exB,λ a p h=>?_⟩
 ·cases z:is0 (ow a) with
  | true=>rw[qM z]at h;exact h
  | false=>rw[gH z]at h;exact r.exG a o h
 ·obtain⟨h1,h2⟩:=go h;obtain⟨x,y,w⟩:=r.dF a p h2;exact⟨x,by rw[gH h1];exact y,w⟩
 ·cases z:is0 (ow a) with
  | true =>
   obtain⟨q,e⟩:=iZ z
   have:=(r.dF a _ e).1
   rw[h]at this
   cases this
  | false=>rw[gH z];exact r.dG a o h
 ·obtain⟨v,q1,q2⟩:=r.sl i s h;refine⟨v,q1,q2.go (Same.refl F) λ a w e=>⟨rfl,?_⟩⟩
  have e:ow a=some ((i+1)::w):=e
  show VS.qL ow a=some ((i+1)::w);rw[sr (by rw[e];rfl)];exact e
 ·exact r.dB a p (go h).2
theorem Rl.unlock0 (j:Nat)(r1:Rl K ca bh pn G F1 ow1 σ H1 L1)(r:Rl K ca bh pn (lock0G G H1 ow1) F2 ow2 σ2 H2 L2):Rl K ca bh pn G F2 (VS.lY j ow1 ow2) σ2 H2 L2/\Keeps H1 H2 ow1 (VS.lY j ow1 ow2) [0] [0,j]/\∀ p,Keeps H2 H2 ow2 (VS.lY j ow1 ow2) p p:=by
 have at1:∀ {a:Addr} {q:Path},ow1 a=some (0::q)->H2 a=H1 a/\F2 a=none/\ow2 a=none/\G a=none:=λ {a q} e=>by
  obtain⟨x,y,z⟩:=r1.dF a _ e
  have hl:lock0G G H1 ow1 a=H1 a:=qM (by rw[e];rfl)
  cases w:H1 a with
  | none=>exact absurd w z.1
  | some o =>
   rw[w]at hl
   have h2:=r.exG a o hl
   refine⟨h2,?_,?_,y⟩
   ·cases u:F2 a with
    | none=>rfl
    | some o2 =>
     rcases r.dG a o2 u with t | t
     ·rw[hl]at t;cases t
     ·have:=r.exF a o2 u
      rw[h2]at this
      cases this
      exact absurd t (z.2 o w)
   ·cases u:ow2 a with
    | none=>rfl
    | some p =>
     have:=(r.dF a p u).2.1
     rw[hl]at this
     cases this
 have no1:∀ {a:Addr} {p:Path},ow2 a=some p->is0 (ow1 a)=false:=λ {a p} h=>by
  cases z:is0 (ow1 a) with
  | false=>rfl
  | true =>
   obtain⟨q,e⟩:=iZ z;rw[(at1 e).2.2.1]at h
   cases h
 have go:∀ {a:Addr} {p:Path},VS.lY j ow1 ow2 a=some p->(∃ q,ow1 a=some (0::q))∨(is0 (ow1 a)=false/\ow2 a=some p):=λ {a p} h=>by
  cases z:is0 (ow1 a) with
  | true=>exact .inl (iZ z)
  | false=>exact .inr ⟨rfl,by rw[jG z]at h;exact h⟩
 refine⟨⟨r.exF,λ a o h=>?_,λ a p h=>?_,λ a o h=>?_,r.len,λ i s h=>?_,r.pin,r.exB,λ a p h=>?_⟩,λ a q e=>⟨(at1 e).1,lZ e⟩,λ p a q e=>⟨rfl,by rw[jG (no1 e)];exact e⟩⟩
 ·refine r.exG a o ?_;rw[gH]
  ·exact h
  ·cases z:is0 (ow1 a) with
   | false=>rfl
   | true =>
    obtain⟨q,e⟩:=iZ z;rw[(at1 e).2.2.2]at h
    cases h
 ·rcases go h with ⟨q,e⟩ | ⟨h1,h2⟩
  ·obtain⟨x,y,z⟩:=r1.dF a _ e;obtain⟨q1,q2,_,_⟩:=at1 e;exact⟨q2,y,by rw[q1];exact z⟩
  ·obtain⟨x,y,z⟩:=r.dF a p h2;exact⟨x,by rw[gH h1]at y;exact y,z⟩
 ·rcases r.dG a o h with t | t
  ·cases z:is0 (ow1 a) with
   | false=>rw[gH z]at t;exact .inl t
   | true =>
    obtain⟨q,e⟩:=iZ z;exact .inl (at1 e).2.2.2
  ·exact .inr t
 ·obtain⟨v,q1,q2⟩:=r.sl i s h;exact⟨v,q1,q2.go (Same.refl F2) λ a w e=>⟨rfl,by rw[jG (no1 e)];exact e⟩⟩
 ·rcases go h with ⟨q,e⟩ | ⟨h1,h2⟩
  ·exact r1.dB a _ e
  ·exact r.dB a p h2
end
def JAw (c:Ct)(es:List Expr)(as:List Aw):Prop:=∃ t,PA c.X es t/\∀ (j:Nat) G F ow σ H L,c.Rl G F ow σ H L->Post c G false F H σ (cQ as L) (λ F' H' ow' xs vs=>AqOk c.X.K c.ca c.B σ F' H' ow' j xs vs/\AwOk as xs) (t σ H)
theorem ajp:JAw c [] []:=⟨_,pa_nil,λ j G F ow σ H L Rr=>Post.val Rr ⟨trivial,agA⟩⟩
theorem amc (h1:JE c n1 a ge)(h2:JAw c es as)(hs:starEach (a::es) c.X.env=(false,eval a c.X.env)::starEach es c.X.env:=by rfl):JAw c (a::es) (.t ge::as):=by
 obtain⟨t1,p1,q1⟩:=h1;obtain⟨t2,p2,q2⟩:=h2;refine⟨_,pa_cons p1 p2 hs,λ j G F ow σ H L Rr=>?_⟩
 have key:=(q1 G F ow σ H L Rr).bind (n2:=false) (k:=λ d L1=>(cQ as L1).bind λ xs L2=>.ok (Aq.t d::xs) L2) (B2:=λ F' H' ow' xs vs=>AqOk c.X.K c.ca c.B σ F' H' ow' j xs vs/\AwOk (.t ge::as) xs) (t2:=λ v H1 Q=>t2 σ H1 λ vs H2=>Q (v::vs) H2) λ s L1 v H1 F1 ow1 _ _ _ R1 b1=>?_
 ·rw[Bool.and_false]at key;exact key
 ·have key2:=q2 (j+1) (lock0G G H1 ow1) F1 (qL ow1) σ H1 L1 R1.lock0
  cases hev:cQ as L1 with
  | stuck=>trivial
  | err er L2 =>
   rw[hev]at key2;intro hw Q;refine key2 (λ H2 F2 ow2 e2 R2=>hw H2 F2 _ e2 (R1.unlock0 j R2).1) _
  | ok xs L2 =>
   rw[hev]at key2;intro Q q;refine key2 _ λ vs H2 F2 ow2 e2 _ R2 b2=>?_;obtain⟨w1,w2,w3⟩:=R1.unlock0 j R2;exact q (v::vs) H2 F2 _ e2 (λ h=>by cases h) w1 ⟨⟨RS.go b1 e2 w2,AqOk.move (Same.refl F2) (λ k=>w3 _) b2.1⟩,adC (λ i h=>by cases h) b2.2⟩
end
def refsW:List Aq->List Nat
 | []=>[]
 | .r i::xs=>i::refsW xs
 | _::xs=>refsW xs
def lensW:List Aq->List Nat
 | []=>[]
 | .l i::xs=>i::lensW xs
 | _::xs=>lensW xs
def okW (xs:List Aq):Prop:=(refsW xs).Nodup/\∀ i∈lensW xs,i∉refsW xs
instance (xs:List Aq):Decidable (okW xs):=by unfold okW;exact inferInstance
section
variable {c:Ct}{G F H:Hp}{ow:Addr->Option Path}{σ:L2.St}{L:LS}{xs:List Aq}{vs:List V}
open Classical in
theorem amd {K:W.Frag}{ca:Nat->Addr}{F F' H:Hp}{p:Path}{s:S}{v:V}{d:D}(h:RS K ca F H ow p s v)(hd:s1D s=some d)(e:Same F F')(hF:∀ a,ow a=some p->F' a=H a):Dq K F' v d:=by
 cases h with
 | d q=>cases hd;exact q.up e
 | ol a b q=>cases hd;exact .lst ((hF _ b).trans a) (q.up e)
 | _=>cases hd
theorem agB {K:W.Frag}{ca:Nat->Addr}{F F' H:Hp}{p:Path}(e:Same F F')(hF:∀ a q,ow a=some (p++q)->F' a=H a):∀ {ss:List S} {i:Nat} {vs:List V} {ds:List D},RI K ca F H ow p i ss vs->s1Ds ss=some ds->DqA K F' vs ds
 | [],_,_,_,h,hd=>by
  cases h
  cases hd
  exact .nil
 | s::ss,i,_,ds,h,hd=>by
  cases h with
  | cons a b =>
   obtain⟨d,h1,h2⟩:=Option.bind_eq_some_iff.mp hd
   obtain⟨ds',h3,rfl⟩:=Option.map_eq_some_iff.mp h2
   exact .cons (amd a h1 e λ a h=>hF a [i] h) (agB e hF b h3)
theorem aa1 {K:W.Frag}{F F':Hp}:∀ {ds:List D} {us:List V},ds.all scal=true->DqA K F us ds->DqA K F' us ds
 | _,_,_,.nil=>.nil
 | _,_,h,.cons a b=>by
  rw[List.all_cons,Bool.and_eq_true]at h
  exact .cons (wz h.1 a) (aa1 h.2 b)
end
section
variable {c:Ct}{a b:Expr}{ga gb:LS->R D}{ge:LS->R S}{es:List Expr}{as:List Aw}{md:List Bool}{m:LS->R S}{ps:List Str}{x:Str}{p pos apos:Pos}{e o:Expr}{gs:List Nat}{obs:Obs}{n:Bool}{i C k j:Nat}
end
def viewS:Option S->Option S
 | some (.d d)=>some (.d d)
 | some (.b d)=>some (.d d)
 | some (.bl ds)=>some (.d (.list ds))
 | some (.ol ds)=>some (.d (.list ds))
 | some (.scr ns)=>some (.scr ns)
 | _=>none
def viewL (L:LS):LS:=L.map viewS
open Classical in
noncomputable def vwF (B F H:Hp)(ow:Addr->Option Path):Hp:=λ a=>match BF B F a with
 | some o=>some o
 | none=>if(∃ p,ow a=some p) then H a else none
def vwG (F' H:Hp):Hp:=λ a=>if(F' a).isSome then none else H a
section
variable {c:Ct}{G F H:Hp}{ow:Addr->Option Path}{σ:L2.St}{L:LS}
theorem aa2 {B:Hp}:Same (BF B F) (vwF B F H ow):=λ a o h=>by
 unfold vwF;rw[h]
open Classical in
theorem ahN (Rr:c.Rl G F ow σ H L):Same (vwF c.B F H ow) H:=λ a o h=>by
 unfold vwF at h
 cases z:BF c.B F a with
 | some u =>
  rw[z]at h;rw[←h];exact BF.inH Rr.exF Rr.exB a u z
 | none =>
  rw[z]at h
  have h:(if(∃ p,ow a=some p) then H a else none)=some o:=h
  split at h
  ·exact h
  ·cases h
theorem ahO (Rr:c.Rl G F ow σ H L){a:Addr}{p:Path}(h:ow a=some p):vwF c.B F H ow a=H a:=by
 unfold vwF
 have:BF c.B F a=none:=by
  unfold BF;rw[Rr.dB a p h];exact(Rr.dF a p h).1
 rw[this];exact if_pos ⟨p,h⟩
theorem Rl.view (Rr:c.Rl G F ow σ H L):c.Rl (vwG (vwF c.B F H ow) H) (vwF c.B F H ow) (λ _=>none) σ H (viewL L):=by
 have eF:Same F (vwF c.B F H ow):=λ a o h=>aa2 a o (BF.inF Rr.exF Rr.exB a o h)
 refine⟨ahN Rr,λ a o h=>?_,(λ a p h=>nomatch h),λ a o h=>?_,by unfold viewL;rw[List.length_map];exact Rr.len,λ i s h=>?_,Rr.pin,Rr.exB,(λ a p h=>nomatch h)⟩
 ·unfold vwG at h
  split at h
  ·cases h
  ·exact h
 ·refine .inl ?_;unfold vwG;rw[h]
  rfl
 ·unfold viewL at h;rw[List.getElem?_map]at h;obtain⟨o,h1,h2⟩:=Option.map_eq_some_iff.mp h
  cases o with
  | none=>cases h2
  | some s0 =>
   obtain⟨v,hv,rs⟩:=Rr.sl i s0 h1;refine⟨v,hv,?_⟩
   cases s0 with
   | d d=>cases h2;cases rs with | d q=>exact RT.of (.d (q.up eF))
   | b d=>cases h2;exact RT.of (.d (Dq.up aa2 rs))
   | bl ds =>
    cases h2
    obtain⟨l,us,rfl,q1,q2⟩:=rs;exact RT.of (.d (.lst (aa2 l _ q1) (q2.up eF)))
   | ol ds =>
    cases h2
    cases rs with
    | ol a b q=>exact RT.of (.d (.lst ((ahO Rr b).trans a) (q.up eF)))
   | scr ns=>cases h2;cases rs with | scr a=>exact RT.of (.scr (sql_same eF a))
   | _=>cases h2
theorem iU {F' H':Hp}{ow':Addr->Option Path}{σ':L2.St}{L':LS}(Rr:c.Rl G F ow σ H L)(e:Same (vwF c.B F H ow) F')(r:c.Rl (vwG (vwF c.B F H ow) H) F' ow' σ' H' L'):Same H H':=λ a o h=>by
 cases z:vwF c.B F H ow a with
 | some u =>
  have:=ahN Rr a u z
  rw[h]at this
  cases this
  exact r.exF a o (e a o z)
 | none =>
  refine r.exG a o ?_;unfold vwG;rw[z];exact h
end
def gView (g:LS->R D):LS->R D:=λ L=>match g (viewL L) with
 | .ok d _=>if scal d=true then .ok d L else .stuck
 | .err e _=>.err e L
 | .stuck=>.stuck
def gViewE (g:LS->R S):LS->R S:=λ L=>match g (viewL L) with
 | .ok (.ol ds) _=>if ds.all scal=true then .ok (.ol ds) L else .stuck
 | .ok (.d d) _=>if scal d=true then .ok (.d d) L else .stuck
 | .ok _ _=>.stuck
 | .err e _=>.err e L
 | .stuck=>.stuck
section
variable {c:Ct}{n n1 n2:Bool}{a b:Expr}{ga gb:LS->R D}{ge:LS->R S}{pos:Pos}
theorem ajr (h:JD c n a ga):JD c true a (gView ga):=by
 obtain⟨t,ht,hg⟩:=h;refine⟨t,ht,λ G F ow σ H L Rr=>?_⟩
 have key:=hg _ _ _ σ H _ Rr.view
 unfold gView
 cases hr:ga (viewL L) with
 | stuck=>trivial
 | err e L1 =>
  rw[hr]at key;exact λ hw Q=>key (λ H' F' ow' e' r=>hw H' F ow (Same.refl F) (Rr.more (iU Rr e' r))) Q
 | ok d L1 =>
  rw[hr]at key;refine Post.guard λ hs=>?_;intro Q q;refine key Q λ v H' F' ow' e' _ r b=>?_
  have s:=iU Rr e' r
  exact q v H' F ow (Same.refl F) (λ _=>s) (Rr.more s) (wz hs b)
theorem ajs (h:JE c n a ge):JE c true a (gViewE ge):=by
 obtain⟨t,ht,hg⟩:=h;refine⟨t,ht,λ G F ow σ H L Rr=>?_⟩
 have key:=hg _ _ _ σ H _ Rr.view
 unfold gViewE
 cases hr:ge (viewL L) with
 | stuck=>trivial
 | err e L1 =>
  rw[hr]at key;exact λ hw Q=>key (λ H' F' ow' e' r=>hw H' F ow (Same.refl F) (Rr.more (iU Rr e' r))) Q
 | ok s L1 =>
  rw[hr]at key
  cases s with
  | d d =>
   refine Post.guard λ hs=>?_;intro Q q;refine key Q λ v H' F' ow' e' _ r b=>?_
   have s:=iU Rr e' r
   cases b with
   | d b=>exact q v H' F ow (Same.refl F) (λ _=>s) (Rr.more s) (.d (wz hs b))
  | ol ds =>
   refine Post.guard λ hs=>?_;intro Q q;refine key Q λ v H' F' ow' e' _ r b=>?_
   have s:=iU Rr e' r
   cases b with
   | @ol _ l vs _ h1 h2 h3 =>
    have hN:H l=none:=by
     cases z:H l with
     | none=>rfl
     | some o =>
      obtain⟨x,y,w⟩:=r.dF l _ h2
      cases zf:vwF c.B F H ow l with
      | some u=>rw[e' l u zf]at x;cases x
      | none =>
       unfold vwG at y;rw[zf,z]at y
       cases y
    exact q _ H' F _ (Same.refl F) (λ _=>s) (Rr.ownAt s (p:=[0]) hN h1) (.ol h1 (jK ..) (aa1 hs h3))
  | _=>trivial
theorem aod {t x y:Expr}{n3:Bool}{gt:LS->R Bool}{gx gy:LS->R S}(ht:JT c n1 t gt)(ha:JE c n2 x gx)(hb:JE c n3 y gy):JE c (n1&&(n2&&n3)) (.IfExp t x y pos) (gIfE gt gx gy):=by
 obtain⟨t,p,q⟩:=ht;obtain⟨ta,p1,q1⟩:=ha;obtain⟨tb,p2,q2⟩:=hb;refine⟨_,pe_ifExp p p1 p2,λ G F ow σ H L Rr=>(q G F ow σ H L Rr).bind (t2:=λ x H1 Q=>if x=true then ta σ H1 Q else tb σ H1 Q) λ x L1 v H1 F1 ow1 _ _ _ R1 b1=>?_⟩
 cases b1
 have weaken:∀ {m:Bool} {r:R S} {t:(V->Hp->Prop)->Prop},((n2&&n3)=true->m=true)->Post c G m F1 H1 σ r (BE c.ca c.X.K) t->Post c G (n2&&n3) F1 H1 σ r (BE c.ca c.X.K) t:=λ {m r t} hm h=>by
  cases r with
  | stuck=>trivial
  | err e L=>exact h
  | ok z L=>exact λ Q q=>h Q λ b H' F' ow' e1 s1=>q b H' F' ow' e1 λ hn=>s1 (hm hn)
 cases x with
 | true=>exact weaken (λ h=>(and_of h).1) (q1 G F1 ow1 σ H1 L1 R1)
 | false=>exact weaken (λ h=>(and_of h).2) (q2 G F1 ow1 σ H1 L1 R1)
end
def ItOkB (K:W.Frag)(B F:Hp)(ds:List D)(J:It):Prop:=∀ (i:Nat) (H:Hp),Same F H->Same B H->(ds.length<=i->J.stop i H)/\∀ d,ds[i]?=some d->J.go i H/\∀ x H',J.yld i H x H'->H'=H/\Dq K (BF B F) x d
theorem ItOkB.up {K:W.Frag}{B F F':Hp}{ds:List D}{J:It}(e:Same F F')(h:ItOkB K B F ds J):ItOkB K B F' ds J:=λ i H s sb=>by
 obtain⟨h1,h2⟩:=h i H (e.trans s) sb
 refine⟨h1,λ d hd=>?_⟩
 obtain⟨h3,h4⟩:=h2 d hd
 exact⟨h3,λ x H' y=>⟨(h4 x H' y).1,Dq.up (BF.up e) (h4 x H' y).2⟩⟩
def JIB (c:Ct)(n:Bool)(tg iter:Expr)(g:LS->R (List D)):Prop:=∃ wi,PI c.X tg iter wi/\Jdg c n g (λ K F _ _ ds J=>ItOkB K c.B F ds J) wi
def gLentT (i:Nat):LS->R (List D):=λ L=>match L[i]? with
 | some (some (.b (.tuple ds)))=>.ok ds L
 | some (some (.d (.tuple ds)))=>.ok ds L
 | _=>.stuck
section
variable {c:Ct}{n n1 n2 n3:Bool}{a b tg iter e0:Expr}{ga gb:LS->R D}{ge:LS->R S}{pos:Pos}
theorem ajt {i:Nat}(h:PSl c i e0):JIB c true tg e0 (gLentT i):=by
 obtain⟨te,h,hte⟩:=h;refine⟨_,pi_tup h,λ G F ow σ H L Rr=>?_⟩
 have main:∀ {v:V} {ds:List D},σ[i]?=some (some v)->Dq c.X.K (BF c.B F) v (.tuple ds)->Post c G true F H σ (.ok ds L) (λ F _ _ ds J=>ItOkB c.X.K c.B F ds J) (iTup c.X.K te σ H):=λ {v ds} hv q=>by
  cases q with
  | @tup l vs _ h1 h2 =>
   have at1:∀ H',Same F H'->Same c.B H'->SqT c.X.K H' l vs:=λ H' e1 e2=>.of (BF.inH e1 e2 l _ h1)
   refine(Post.val (a:=ds) (b:=Itt c.X.K l) (B:=λ F _ _ ds J=>ItOkB c.X.K c.B F ds J) Rr λ k H' s sb=>⟨λ hi=>⟨vs,at1 H' s sb,by rw[h2.len];exact hi⟩,λ d hd=>?_⟩).imp λ Q q=>hte Rr hv _ ⟨l,rfl,⟨vs,at1 H Rr.exF Rr.exB⟩,q⟩;obtain⟨v,h3,h4⟩:=h2.get hd
   exact⟨⟨vs,v,at1 H' s sb,h3⟩,λ x H2 ⟨e1,e2⟩=>⟨e1,by
    have:=e2 vs (at1 H' s sb)
    rw[h3]at this
    cases this
    exact h4⟩⟩
 unfold gLentT
 cases hL:L[i]? with
 | none=>trivial
 | some o =>
  cases o with
  | none=>trivial
  | some s =>
   obtain⟨v,hv,rs⟩:=Rr.sl i s hL
   cases s with
   | b d =>
    cases d with
    | tuple ds=>exact main hv rs
    | _=>trivial
   | d d =>
    cases d with
    | tuple ds=>exact main hv (by cases rs with | d q=>exact Dq.up (BF.inF Rr.exF Rr.exB) q)
    | _=>trivial
   | _=>trivial
theorem Rl.storeB {G F H:Hp}{ow:Addr->Option Path}{σ:L2.St}{L:LS}{i:Nat}{d:D}{v:V}(Rr:c.Rl G F ow σ H L)(q:Dq c.X.K (BF c.B F) v d)(hp:c.free i):c.Rl G F ow (σ.set i (some v)) H (L.set i (some (.b d))):=by
 refine⟨Rr.exF,Rr.exG,Rr.dF,Rr.dG,by rw[List.length_set,List.length_set];exact Rr.len,λ k s' h=>?_,zK Rr hp,Rr.exB,Rr.dB⟩
 have hlt:k < σ.length:=by
  have:=(List.getElem?_eq_some_iff.mp h).1
  rw[List.length_set]at this;rw[←Rr.len];exact this
 rcases gY h with ⟨rfl,hs⟩ | ⟨hk,hs⟩
 ·cases Option.some.inj hs
  exact⟨v,by rw[List.getElem?_set];simp[hlt],q⟩
 ·obtain⟨u,h1,h2⟩:=Rr.sl k s' hs;exact⟨u,(List.getElem?_set_ne hk).trans h1,h2⟩
end
def lcGoS (vs:List Nat)(j:Nat)(ge:LS->R S):List D->List S->LS->R S
 | [],acc,L=>.ok (.os acc) L
 | d::ds,acc,L=>match ge (L.set j (some (.b d))) with
  | .ok s L3=>if acc.length < sizeLine/\s.own=true then lcGoS vs j ge ds (acc++[s]) (wipeL L3 vs) else .stuck
  | _=>.stuck
theorem ym {vs:List Nat}{j:Nat}{ge:LS->R S}{k:Nat}{L':LS}:∀ (ds:List D) (acc:List S) (L:LS),lcGoS vs j ge ds acc L≠.err k L'
 | [],acc,L,h=>by cases h
 | d::ds,acc,L,h=>by
  unfold lcGoS at h
  split at h
  ·split at h
   ·exact ym ds _ _ h
   ·cases h
  ·cases h
def gLcS (vs:List Nat)(gi:LS->R (List D))(j:Nat)(ge:LS->R S):LS->R S:=λ L=>(gi L).bind λ ds L1=>lcGoS vs j ge ds [] (wipeL L1 vs)
theorem RI.len {K:W.Frag}{ca:Nat->Addr}{F H:Hp}{ow:Addr->Option Path}:∀ {p:Path} {i:Nat} {ss:List S} {vs:List V},RI K ca F H ow p i ss vs->ss.length=vs.length
 | _,_,[],_,h=>by cases h;rfl
 | _,i,s::ss,_,h=>by
  cases h with
  | cons a b=>rw[List.length_cons,List.length_cons,RI.len b]
theorem RI.snoc {K:W.Frag}{ca:Nat->Addr}{F H:Hp}{ow:Addr->Option Path}{p:Path}{s:S}{v:V}:∀ {i:Nat} {ss:List S} {vs:List V},RI K ca F H ow p i ss vs->RS K ca F H ow (p++[i+ss.length]) s v->RI K ca F H ow p i (ss++[s]) (vs++[v])
 | i,[],_,h,r=>by
  cases h
  exact .cons r .nil
 | i,s0::ss,_,h,r=>by
  cases h with
  | cons a b=>exact .cons a (RI.snoc b (by rw[show i+1+ss.length=i+(s0::ss).length by rw[List.length_cons];omega];exact r))
structure AsideS (K:W.Frag)(B G Ga F H:Hp)(oa:Addr->Option Path)(D:Addr)(acc:List V):Prop where
 d:Ga D=some (.lst acc)
 g:∀ a o,G a=some o->Ga a=some o
 n:∀ a,a≠D->oa a=none->Ga a=G a
 o:∀ a p,oa a=some p->a≠D/\G a=none/\B a=none/\(∃ q,p=0::q)/\∃ u,Ga a=some u/\H a=some u/\¬ kT u
section
variable {c:Ct}{n n1 n2 n3:Bool}{vs:List Nat}
theorem aju {gi:LS->R (List D)}{j:Nat}{ge:LS->R S}{wi:TI}{tt:TT}{te:TE}(hi:Jdg c n1 gi (λ K F _ _ ds J=>ItOkB K c.B F ds J) wi)
  (hj:vs=[j]) (hp:c.free j) (htt:∀ σ H (Q:Bool->Hp->Prop),Q true H->tt σ H Q) (he:Jdg c.low n3 ge (BE c.ca) te):Jdg c false (gLcS vs gi j ge) (BE c.ca) (tLc wi (L2.gName j) tt te vs):=by
 subst hj
 have hpn:∀ (k:Nat) (v:V),(pinOf c.pb c.v0)[k]?=some (some v)->k∉[j]:=λ k v h hk=>by
  rw[List.mem_singleton]at hk
  subst hk
  exact hp (jZ h).1
 intro G F0 ow σ H0 L0 Rr
 have key:=(hi G F0 ow σ H0 L0 Rr).bind (n2:=false) (B2:=BE c.ca c.X.K) (k:=λ ds L1=>lcGoS [j] j ge ds [] (wipeL L1 [j])) (t2:=λ J H1 (Q:VK)=>∀ D,H1 D=none->∃ W:Nat->Nat->Hp->Prop,(∃ m,W 0 m (upd H1 D (.lst [])))/\∀ i m H,W i m H ->
  (J.stop i H/\Q (V.ref D) H)∨(J.go i H/\∃ Nx:Hp->Prop,(∀ H',Nx H'->∃ m',m' < m/\W (i+1) m' H')/\∀ x H',J.yld i H x H'->L2.gName j x (L2.wipe σ [j]) H' λ σ2 H2=>L2.wipe σ2 [j]=L2.wipe σ [j]/\tt σ2 H2 λ b H3 =>
   if b=true then te σ2 H3 λ y H4=>∃ acc,H4 D=some (.lst acc)/\acc.length < sizeLine/\Nx (upd H4 D (.lst (acc++[y]))) else Nx H3)) λ ds L1 J H1 F1 ow1 _ e1 s1 R1 b1=>?_
 ·rw[Bool.and_false]at key;exact key
 cases hr:lcGoS [j] j ge ds [] (wipeL L1 [j]) with
 | stuck=>trivial
 | err k L2=>exact absurd hr (ym ds [] _)
 | ok s Lf =>
  intro Q q D hD
  have gD:G D=none:=R1.exG.free hD
  have hB:c.B D=none:=R1.exB.free hD
  refine⟨λ i m H=>m=ds.length - i/\i<=ds.length/\∃ F' ow' L' acc da Ga oa,Same F1 F'/\c.Rl Ga F' ow' (L2.wipe σ [j]) H L'/\RI c.X.K c.ca F' H oa [0] 0 da acc/\AsideS c.X.K c.B G Ga F' H oa D acc/\lcGoS [j] j ge (ds.drop i) da L'=.ok s Lf/\∀ (k:Nat) (s':S),L'[k]?=some (some s')->k∉[j],
   ⟨ds.length,rfl,Nat.zero_le _,F1,ow1,wipeL L1 [j],[],[],upd G D (.lst []),λ _=>none,Same.refl F1,(R1.wipe hpn).aside hD,.nil,⟨upd_same,λ a o h=>?_,λ a ha _=>upd_ne ha,λ a p h=>nomatch h⟩,hr,λ k s' h=>(dJ h).2⟩,?_⟩
  ·rw[upd_ne (ne_of_none h gD)];exact h
  rintro i m H ⟨rfl,hi',F2,ow2,LB,acc,da,Ga,oa,e2,R2,hacc,hA,hgo,hno⟩;obtain⟨k1,k2⟩:=(ItOkB.up e2 b1) i H R2.exF R2.exB
  by_cases hlt:i < ds.length
  ·obtain⟨k3,k4⟩:=k2 _ (List.getElem?_eq_getElem hlt);rw[List.drop_eq_getElem_cons hlt]at hgo
   refine .inr ⟨k3,λ H'=>∃ F' ow' L' acc da Ga oa,Same F1 F'/\c.Rl Ga F' ow' (L2.wipe σ [j]) H' L'/\RI c.X.K c.ca F' H' oa [0] 0 da acc/\AsideS c.X.K c.B G Ga F' H' oa D acc/\lcGoS [j] j ge (ds.drop (i+1)) da L'=.ok s Lf/\∀ (k:Nat) (s':S),L'[k]?=some (some s')->k∉[j],
    λ H' w=>⟨ds.length - (i+1),by omega,rfl,hlt,w⟩,λ x H' y=>?_⟩
   obtain⟨rfl,hx⟩:=k4 x H' y
   have wp:L2.wipe ((L2.wipe σ [j]).set j (some x)) [j]=L2.wipe σ [j]:=nj (ws:=[j]) ⟨List.length_set ..,λ k hk=>List.getElem?_set_ne λ z=>hk (by rw[z];exact List.mem_singleton.mpr rfl)⟩ λ k hk=>hk
   show L2.wipe ((L2.wipe σ [j]).set j (some x)) [j]=L2.wipe σ [j]/\_;refine⟨wp,htt _ _ _ ?_⟩;rw[if_pos rfl]
   have R4:=R2.storeB hx hp
   unfold lcGoS at hgo
   have pe:=he _ F2 ow2 _ _ _ R4
   cases hge:ge (LB.set j (some (.b ds[i]))) with
   | stuck=>rw[hge]at hgo;cases hgo
   | err k L6=>rw[hge]at hgo;cases hgo
   | ok y L6 =>
    rw[hge]at hgo pe;refine pe _ λ v H6 F6 ow6 e6 s6 R6 q6=>?_
    have hgo:(if da.length < sizeLine/\y.own=true then lcGoS [j] j ge (ds.drop (i+1)) (da++[y]) (wipeL L6 [j]) else .stuck)=R.ok s Lf:=hgo
    by_cases hz:da.length < sizeLine/\y.own=true
    ·rw[if_pos hz]at hgo
     have R6:c.Rl Ga F6 ow6 ((L2.wipe σ [j]).set j (some x)) H6 L6:=R6
     have hH:H6 D=some (.lst acc):=R6.exG D _ hA.d
     have owD:ow6 D=none:=by
      cases z:ow6 D with
      | none=>rfl
      | some p =>
       have:=(R6.dF D p z).2.1
       rw[hA.d]at this
       cases this
     have FD:F6 D=none:=by
      cases z:F6 D with
      | none=>rfl
      | some u =>
       rcases R6.dG D u z with w | w
       ·rw[hA.d]at w;cases w
       ·have:=R6.exF D u z
        rw[hH]at this
        cases this
        exact absurd w kT_lst
     have at6:∀ {a:Addr} {p:Path},ow6 a=some p->a≠D/\oa a=none/\G a=none:=λ {a p} h=>by
      obtain⟨_,w,_⟩:=R6.dF a p h;refine⟨λ z=>?_,?_,?_⟩
      ·subst z;rw[owD]at h;cases h
      ·cases z:oa a with
       | none=>rfl
       | some p' =>
        obtain⟨_,_,_,_,u,hu,_⟩:=hA.o a p' z;rw[w]at hu
        cases hu
      ·cases z:G a with
       | none=>rfl
       | some u =>
        rw[hA.g a u z]at w
        cases w
     have hl0:lock0G Ga H6 ow6 D=some (.lst acc):=by
      rw[gH (by rw[owD];rfl)];exact hA.d
     have eqU:upd (lock0G Ga H6 ow6) D (.lst acc)=lock0G Ga H6 ow6:=by
      funext a
      by_cases z:a=D
      ·subst z;rw[upd_same,hl0]
      ·rw[upd_ne z]
     have R7:c.Rl (upd (lock0G Ga H6 ow6) D (.lst (acc++[v]))) F6 (qL ow6) (L2.wipe σ [j]) (upd H6 D (.lst (acc++[v]))) (wipeL L6 [j]):=by
      have w1:=(R6.lock0).wipe (vs:=[j]) hpn
      rw[wp,←eqU]at w1;exact w1.asideSet (o':=.lst (acc++[v])) hB
     have old:∀ {a:Addr} {p:Path},oa a=some p->a≠D/\H6 a=H' a/\is0 (ow6 a)=false:=λ {a p} h=>by
      obtain⟨h1,_,_,_,u,hu,hh,_⟩:=hA.o a p h;refine⟨h1,by rw[R6.exG a u hu,hh],?_⟩
      cases z:is0 (ow6 a) with
      | false=>rfl
      | true =>
       obtain⟨q,w⟩:=iZ z;rw[(at6 w).2.1]at h
       cases h
     refine⟨acc,hH,by rw[←RI.len hacc];exact hz.1,F6,qL ow6,wipeL L6 [j],acc++[v],da++[y],upd (lock0G Ga H6 ow6) D (.lst (acc++[v])),lY da.length ow6 oa,e2.trans e6,R7,RI.snoc ?_ ?_,⟨upd_same,λ a o h=>?_,λ a ha h=>?_,λ a p h=>?_⟩,hgo,λ k s' h=>(dJ h).2⟩
     ·refine RI.move e6 _ _ _ _ _ (λ a q h=>?_) hacc;obtain⟨w1,w2,w3⟩:=old h;exact⟨by rw[upd_ne w1];exact w2,by rw[jG w3];exact h⟩
     ·rw[Nat.zero_add];refine RS.go q6 (Same.refl F6) λ a q h=>?_
      have h:ow6 a=some (0::q):=h
      exact⟨upd_ne (at6 h).1,lZ h⟩
     ·have ha:a≠D:=ne_of_none h gD
      rw[upd_ne ha,gH]
      ·exact hA.g a o h
      ·cases z:is0 (ow6 a) with
       | false=>rfl
       | true =>
        obtain⟨q,w⟩:=iZ z;rw[(at6 w).2.2]at h
        cases h
     ·rw[upd_ne ha]
      cases z:is0 (ow6 a) with
      | false =>
       rw[jG z]at h;rw[gH z];exact hA.n a ha h
      | true =>
       obtain⟨q,w⟩:=iZ z;rw[lZ w]at h
       cases h
     ·cases z:is0 (ow6 a) with
      | false =>
       rw[jG z]at h;obtain⟨h1,h2,h3,h4,u,hu,hh,hk⟩:=hA.o a p h;exact⟨h1,h2,h3,h4,u,by rw[upd_ne h1,gH z];exact hu,by rw[upd_ne h1,(old h).2.1];exact hh,hk⟩
      | true =>
       obtain⟨q,w⟩:=iZ z;rw[lZ w]at h
       cases h
       obtain⟨w1,w2,w3⟩:=at6 w;obtain⟨_,_,nt⟩:=R6.dF a _ w
       cases hHa:H6 a with
       | none=>exact absurd hHa nt.1
       | some u=>exact⟨w1,w3,R6.dB a _ w,⟨_,rfl⟩,u,by rw[upd_ne w1,qM z];exact hHa,by rw[upd_ne w1];exact hHa,nt.2 u hHa⟩
    ·rw[if_neg hz]at hgo
     cases hgo
  ·have hl:ds.length<=i:=Nat.le_of_not_lt hlt
   rw[List.drop_eq_nil_of_le hl]at hgo
   cases hgo
   obtain⟨owE,hE⟩:∃ owE:Addr->Option Path,owE=λ a=>if a=D then some [0] else match oa a with
    | some p=>some p
    | none=>ow2 a:=⟨_,rfl⟩
   have eD:owE D=some [0]:=by rw[hE];exact if_pos rfl
   have eO:∀ {a:Addr} {p:Path},oa a=some p->owE a=some p:=λ {a p} h=>by
    rw[hE]
    show(if a=D then some [0] else match oa a with
     | some p=>some p
     | none=>ow2 a)=_
    rw[if_neg (hA.o a p h).1,h]
   have eN:∀ {a:Addr} {p:Path},ow2 a=some p->owE a=some p:=λ {a p} h=>by
    obtain⟨_,w,_⟩:=R2.dF a p h
    have h1:a≠D:=λ z=>by subst z;rw[hA.d]at w;cases w
    have h2:oa a=none:=by
     cases z:oa a with
     | none=>rfl
     | some p' =>
      obtain⟨_,_,_,_,u,hu,_⟩:=hA.o a p' z;rw[w]at hu
      cases hu
    rw[hE]
    show(if a=D then some [0] else match oa a with
     | some p=>some p
     | none=>ow2 a)=_
    rw[if_neg h1,h2];exact h
   have eC:∀ {a:Addr} {p:Path},owE a=some p->a=D∨(a≠D/\oa a=some p)∨(a≠D/\oa a=none/\ow2 a=some p):=λ {a p} h=>by
    rw[hE]at h
    have h:(if a=D then some [0] else match oa a with
     | some p=>some p
     | none=>ow2 a)=some p:=h
    by_cases z:a=D
    ·exact .inl z
    ·rw[if_neg z]at h
     cases w:oa a with
     | some p'=>rw[w]at h;exact .inr (.inl ⟨z,h⟩)
     | none=>rw[w]at h;exact .inr (.inr ⟨z,rfl,h⟩)
   have hHD:H D=some (.lst acc):=R2.exG D _ hA.d
   have frN:∀ {a:Addr} {u:HO},Ga a=some u->¬ kT u->F2 a=none:=λ {a u} h hk=>by
    cases z:F2 a with
    | none=>rfl
    | some u' =>
     rcases R2.dG a u' z with w | w
     ·rw[h]at w;cases w
     ·have:=R2.exF a u' z
      rw[R2.exG a u h]at this
      cases this
      exact absurd w hk
   have RE:c.Rl G F2 owE σ H Lf:=by
    refine⟨R2.exF,λ a o h=>R2.exG a o (hA.g a o h),λ a p h=>?_,λ a o h=>?_,R2.len.trans (wipe_length σ [j]),λ k s' h=>?_,λ k v h=>?_,R2.exB,λ a p h=>?_⟩
    ·rcases eC h with rfl | ⟨h1,h2⟩ | ⟨h1,h2,h3⟩
     ·exact⟨frN hA.d kT_lst,gD,by rw[hHD];exact .of kT_lst⟩
     ·obtain⟨_,w2,_,_,u,hu,hh,hk⟩:=hA.o a p h2;exact⟨frN hu hk,w2,by rw[hh];exact .of hk⟩
     ·obtain⟨x,y,z⟩:=R2.dF a p h3;exact⟨x,by rw[hA.n a h1 h2]at y;exact y,z⟩
    ·rcases R2.dG a o h with w | w
     ·refine .inl ?_
      cases z:G a with
      | none=>rfl
      | some u=>rw[hA.g a u z]at w;cases w
     ·exact .inr w
    ·obtain⟨v,q1,q2⟩:=R2.sl k s' h;exact⟨v,(eV (hno k s' h)).symm.trans q1,q2.go (Same.refl F2) λ a w z=>⟨rfl,eN z⟩⟩
    ·rw[←eV (σ:=σ) (hpn k v h)];exact R2.pin k v h
    ·rcases eC h with rfl | ⟨h1,h2⟩ | ⟨h1,h2,h3⟩
     ·exact hB
     ·exact(hA.o a p h2).2.2.1
     ·exact R2.dB a p h3
   exact .inl ⟨k1 hl,q _ H F2 owE e2 (λ h=>by cases h) RE (.os hHD eD (RI.move (Same.refl F2) _ _ _ _ _ (λ a q h=>⟨rfl,eO h⟩) hacc))⟩
variable {elt iter:Expr}{own:List (Str×Nat)}{scope:Scope}{pos spos pn:Pos}{gi:LS->R (List D)}{ge:LS->R S}{j:Nat}{x:Str}
theorem ame {e:Expr}{g:LS->R S}(h:∀ b,JE (c.blk scope b) n e g):∃ t,(∀ b,PE (c.blk scope b).X e t)/\Jdg c.low n g (BE c.ca) t:=by
 refine⟨λ σ H Q=>∀ b,Classical.choose (h b) σ H Q,λ b=>⟨λ pins s σ H Q I hw=>(Classical.choose_spec (h b)).1.run pins s σ H Q I (hw b)⟩,?_⟩;exact zP _ λ b=>(Classical.choose_spec (h b)).2
theorem amf (hc:c.X.calm=true)(hN:c.X.N.Nodup)(hi:JIB c n1 (.Name x pn) iter gi)(ok:BlkOk c.X.N c.X.env.scope scope own)(hg:∀ b,PG (c.blk scope b).X (.Name x pn) (L2.gName j))(ho:own.map (·.2)=[j])(hp:c.free j)
  (he:∀ b,JE (c.blk scope b) n3 elt ge) (hs:∀ x,foldedSetIterable iter c.X.env x=pure x:=by intro _;rfl):JE c false (.ListComp elt [⟨.Name x pn,iter,[],0⟩] scope pos) (gLcS (own.map (·.2)) gi j ge):=by
 obtain⟨wi,p1,q1⟩:=hi;obtain⟨te,p4,q4⟩:=ame he;exact⟨_,pe_lc hc hN p1 ok (λ s H C cl fp=>hg ⟨s,H,C,cl,fp⟩) (λ s H C cl fp=>pts_nil) (λ s H C cl fp=>p4 ⟨s,H,C,cl,fp⟩) hs,aju q1 ho hp (λ σ H Q q=>q) q4⟩
end
end VS
namespace VS
open PySem PySem.Spec PyProof.Rows L2
def tupS:S->LS->R S
 | .os ss,L=>if ss.length<=sizeLine then .ok (.ot ss) L else .stuck
 | _,_=>.stuck
def gTupS (g:LS->R S):LS->R S:=λ L=>(g L).bind tupS
section
variable {c:Ct}{n:Bool}{a:Expr}{ge:LS->R S}{pos p:Pos}
theorem adD (hg:Gl c.X "tuple") (hm:c.X.mg "tuple"=none) (ha:JE c n a ge) (hs:starEach [a] c.X.env=(false,eval a c.X.env)::starEach [] c.X.env:=by rfl) (hpl:(backTo pos (starEach [] c.X.env)).any (·.1)=false:=by rfl):JE c n (.Call (.Name "tuple" p) [a] [] pos) (gTupS ge):=by
 obtain⟨ta,pa,qa⟩:=ha;refine⟨_,pe_callTy call_tuple_of hg hm (by decide +kernel) (pa_cons pa pa_nil hs) (by decide) (by decide) hs hpl,λ G F ow σ H L Rr=>?_⟩;refine(qa G F ow σ H L Rr).bind1 (t2:=λ v H1 Q=>_) λ s L1 v H1 F1 ow1 _ _ _ R1 b1=>?_
 cases s with
 | os ss =>
  have b0:RS c.X.K c.ca F1 H1 ow1 [0] (.os ss) v:=b1
  cases b0 with
  | @os _ l vs _ h1 h2 h3 =>
  refine Post.guard λ hz=>?_;intro Q q;refine⟨l,vs,rfl,.inl ⟨.of h1,λ t ht=>?_⟩⟩;obtain⟨e1,e,r'⟩:=R1.newF (o:=.tup vs) ht;refine q _ _ _ ow1 e1 (λ _=>e) r' (.ot upd_same (RI.move e1 _ _ _ _ _ (λ a q h=>⟨upd_ne (jC (R1.dF a _ h).2.2.1 ht),h⟩) h3))
 | _=>trivial
def frD:S->LS->R D
 | .ot ss,L=>match s1Ds ss with
  | some ds=>.ok (.tuple ds) L
  | none=>.stuck
 | .os ss,L=>match s1Ds ss with
  | some ds=>.ok (.list ds) L
  | none=>.stuck
 | s,L=>frS s L
def gFzD (g:LS->R S):LS->R D:=λ L=>(g L).bind frD
open Classical in
noncomputable def frzF (F H:Hp)(ow:Addr->Option Path):Hp:=λ a=>match F a with
 | some o=>some o
 | none=>if is0 (ow a)=true then H a else none
theorem qN {F H:Hp}{ow:Addr->Option Path}:Same F (frzF F H ow):=λ a o h=>by
 unfold frzF;rw[h]
theorem aa3 {F H:Hp}{ow:Addr->Option Path}{a:Addr}(h0:F a=none)(h:is0 (ow a)=true):frzF F H ow a=H a:=by
 unfold frzF;rw[h0];exact if_pos h
theorem zY {F H:Hp}{ow:Addr->Option Path}{a:Addr}(h:is0 (ow a)=false):frzF F H ow a=F a:=by
 unfold frzF
 cases z:F a with
 | some u=>rfl
 | none =>
  show(if is0 (ow a)=true then H a else none)=none;rw[h]
  rfl
theorem Rl.frzAll {K:W.Frag}{ca:Nat->Addr}{bh:Hp}{pn:List (Option V)}{G F H:Hp}{ow:Addr->Option Path}{σ:L2.St}{L:LS}(r:Rl K ca bh pn G F ow σ H L):Rl K ca bh pn G (frzF F H ow) (VS.qL ow) σ H L:=by
 have go:∀ {a:Addr} {p:Path},VS.qL ow a=some p->is0 (ow a)=false/\ow a=some p:=λ {a p} h=>by
  cases z:is0 (ow a) with
  | true=>rw[yj z]at h;cases h
  | false=>exact⟨rfl,by rw[sr z]at h;exact h⟩
 refine⟨λ a o h=>?_,r.exG,λ a p h=>?_,λ a o h=>?_,r.len,λ i s h=>?_,r.pin,r.exB,λ a p h=>r.dB a p (go h).2⟩
 ·cases z:is0 (ow a) with
  | false=>rw[zY z]at h;exact r.exF a o h
  | true =>
   obtain⟨q,e⟩:=iZ z
   rw[aa3 (r.dF a _ e).1 z]at h
   exact h
 ·obtain⟨h1,h2⟩:=go h
  obtain⟨x,y,z⟩:=r.dF a p h2
  exact⟨by rw[zY h1];exact x,y,z⟩
 ·cases z:is0 (ow a) with
  | false=>rw[zY z]at h;exact r.dG a o h
  | true =>
   obtain⟨q,e⟩:=iZ z
   exact .inl (r.dF a _ e).2.1
 ·obtain⟨v,q1,q2⟩:=r.sl i s h
  refine⟨v,q1,q2.go qN λ a w e=>⟨rfl,?_⟩⟩
  have e:ow a=some ((i+1)::w):=e
  show VS.qL ow a=some ((i+1)::w)
  rw[sr (by rw[e];rfl)]
  exact e
theorem ahP (h:JE c n a ge):JD c n a (gFzD ge):=by
 obtain⟨t,ht,hg⟩:=h;refine⟨t,ht,λ G F ow σ H L Rr=>?_⟩
 have key:=(hg G F ow σ H L Rr).bind (n2:=true) (k:=frD) (B2:=BD c.X.K) (t2:=λ b H1 Q=>Q b H1) λ s L1 v H1 F1 ow1 _ _ _ R1 b1=>?_
 ·rw[Bool.and_true]at key;exact key
 have b0:RS c.X.K c.ca F1 H1 ow1 [0] s v:=b1
 have at0:∀ (a:Addr) (q:Path),ow1 a=some ([0]++q)->frzF F1 H1 ow1 a=H1 a:=λ a q h=>aa3 (R1.dF a _ h).1 (by rw[h];rfl)
 cases s with
 | ot ss =>
  rw[show frD (.ot ss) L1=(match s1Ds ss with | some ds=>.ok (.tuple ds) L1 | none=>.stuck) from rfl]
  cases hd:s1Ds ss with
  | none=>trivial
  | some ds =>
   cases b0 with
   | ot h1 h3=>exact λ Q q=>q _ H1 _ _ qN (λ _=>Same.refl H1) R1.frzAll (.tup (qN _ _ h1) (agB qN at0 h3 hd))
 | os ss =>
  rw[show frD (.os ss) L1=(match s1Ds ss with | some ds=>.ok (.list ds) L1 | none=>.stuck) from rfl]
  cases hd:s1Ds ss with
  | none=>trivial
  | some ds =>
   cases b0 with
   | os h1 h2 h3=>exact λ Q q=>q _ H1 _ _ qN (λ _=>Same.refl H1) R1.frzAll (.lst ((at0 _ [] h2).trans h1) (agB qN at0 h3 hd))
 | _=>exact acv R1 b0
end
def akQ:S->Bool
 | .d d=>scal d
 | .ol _=>true
 | _=>false
def isRf:V->Bool
 | .ref _=>true
 | _=>false
def offR (i:Nat)(ow:Addr->Option Path):Addr->Option Path:=λ a=>match ow a with
 | some ((r+1)::q)=>if r=i then none else some ((r+1)::q)
 | x=>x
theorem yo {i:Nat}{ow:Addr->Option Path}{a:Addr}{p:Path}(h:offR i ow a=some p):ow a=some p/\∀ q,p≠(i+1)::q:=by
 unfold offR at h
 split at h
 ·rename_i r q e
  split at h
  ·cases h
  ·rename_i hr
   cases h
   exact⟨e,λ q' z=>by injection z with z _;omega⟩
 ·rename_i hn
  exact⟨h,λ q z=>hn i q (by rw[h,z])⟩
theorem ajv {i r:Nat}{ow:Addr->Option Path}{a:Addr}{q:Path}(h:ow a=some (r::q))(hr:r≠i+1):offR i ow a=some (r::q):=by
 unfold offR;rw[h]
 cases r with
 | zero=>rfl
 | succ r=>exact if_neg (by omega)
theorem agC {i:Nat}{ow:Addr->Option Path}{a:Addr}{q:Path}(h:ow a=some ((i+1)::q)):offR i ow a=none:=by
 unfold offR;rw[h];exact if_pos rfl
section
variable {K:W.Frag}{ca:Nat->Addr}{bh:Hp}{pn:List (Option V)}{G F H:Hp}{ow:Addr->Option Path}{σ:L2.St}{L:LS}
theorem Rl.drop (r:Rl K ca bh pn G F ow σ H L)(i:Nat):Rl K ca bh pn G F (offR i ow) σ H (L.set i none):=by
 refine⟨r.exF,r.exG,λ a p h=>r.dF a p (yo h).1,r.dG,by rw[List.length_set];exact r.len,λ k s h=>?_,r.pin,r.exB,λ a p h=>r.dB a p (yo h).1⟩;rcases gY h with ⟨_,h1⟩ | ⟨h1,h2⟩
 ·cases h1
 ·obtain⟨v,q1,q2⟩:=r.sl k s h2;exact⟨v,q1,q2.go (Same.refl F) λ a q e=>⟨rfl,ajv (q:=q) e (by omega)⟩⟩
theorem Rl.loose (r:Rl K ca bh pn G F ow σ H L){l:Addr}{o:HO}(hF:F l=none)(hG:G l=none)(hB:bh l=none)(hO:ow l=none):Rl K ca bh pn G F ow σ (upd H l o) L:=by
 have ne:∀ {a:Addr} {p:Path},ow a=some p->a≠l:=λ h z=>by subst z;rw[hO]at h;cases h
 refine⟨λ a u h=>?_,λ a u h=>?_,λ a p h=>?_,r.dG,r.len,λ i s h=>?_,r.pin,λ a u h=>?_,r.dB⟩
 ·rw[upd_ne (ne_of_none h hF)];exact r.exF a u h
 ·rw[upd_ne (ne_of_none h hG)];exact r.exG a u h
 ·rw[upd_ne (ne h)];exact r.dF a p h
 ·obtain⟨v,q1,q2⟩:=r.sl i s h;exact⟨v,q1,q2.go (Same.refl F) λ a q e=>⟨upd_ne (ne e),e⟩⟩
 ·rw[upd_ne (ne_of_none h hB)];exact r.exB a u h
theorem Rl.anyV (r:Rl K ca bh pn G F ow σ H L){j:Nat}{v:V}(h:∀ s,L[j]?≠some (some s))(hp:∀ u,pn[j]?≠some (some u)):Rl K ca bh pn G F ow (σ.set j (some v)) H L:=by
 refine⟨r.exF,r.exG,r.dF,r.dG,by rw[List.length_set];exact r.len,λ k s hk=>?_,λ k u hk=>?_,r.exB,r.dB⟩
 ·obtain⟨u,q1,q2⟩:=r.sl k s hk
  have hne:j≠k:=λ z=>by subst z;exact h s hk
  exact⟨u,(List.getElem?_set_ne hne).trans q1,q2⟩
 ·have hne:j≠k:=λ z=>by subst z;exact hp u hk
  exact(List.getElem?_set_ne hne).trans (r.pin k u hk)
theorem Rl.forget (r:Rl K ca bh pn G F ow σ H L)(j:Nat):Rl K ca bh pn G F ow σ H (L.set j none):=by
 refine⟨r.exF,r.exG,r.dF,r.dG,by rw[List.length_set];exact r.len,λ k s hk=>?_,r.pin,r.exB,r.dB⟩;rcases gY hk with ⟨_,h1⟩ | ⟨h1,h2⟩
 ·cases h1
 ·exact r.sl k s h2
theorem RI.get:∀ {p:Path} {i k:Nat} {ss:List S} {vs:List V} {v:V},RI K ca F H ow p i ss vs->vs[k]?=some v->∃ s,ss[k]?=some s/\RS K ca F H ow (p++[i+k]) s v
 | p,i,k,[],_,v,h,e=>by cases h;cases e
 | p,i,k,s::ss,_,v,h,e=>by
  cases h with
  | cons a b =>
   cases k with
   | zero=>cases e;exact⟨s,rfl,a⟩
   | succ k =>
    obtain⟨t,h1,h2⟩:=RI.get (k:=k) b e;exact⟨t,h1,by rw[show i+(k+1)=i+1+k by omega];exact h2⟩
end
theorem aoe:kitB "NoneType" "list"=some false:=by decide +kernel
theorem aof:kitB "bool" "list"=some false:=by decide +kernel
theorem aog:kitB "int" "list"=some false:=by decide +kernel
theorem aoh:kitB "str" "list"=some false:=by decide +kernel
theorem aoi:kitB "list" "list"=some true:=by decide +kernel
theorem yq {d:D}(h:scal d=true):isTy "list" d=some (.bool false):=by
 unfold isTy
 cases d with
 | none=>rw[show dTy PyData.none="NoneType" from rfl,aoe];rfl
 | bool b=>rw[show dTy (PyData.bool b)="bool" from rfl,aof];rfl
 | int i=>rw[show dTy (PyData.int i)="int" from rfl,aog];rfl
 | str x=>rw[show dTy (PyData.str x)="str" from rfl,aoh];rfl
 | _=>cases h
theorem yr {ds:List D}:isTy "list" (.list ds)=some (.bool true):=by
 unfold isTy;rw[show dTy (PyData.list ds)="list" from rfl,aoi]
 rfl
section
variable {c:Ct}{iter test:Expr}{scope:Scope}{own:List (Str×Nat)}{i j:Nat}{x:Str}{pn p1 p2 p3 lpos apos cpos ppos pos:Pos}
end
def osOf:List Aq->Option (List S)
 | []=>some []
 | .t s::xs=>(osOf xs).map (s::·)
 | .d d::xs=>(osOf xs).map (.d d::·)
 | _::_=>none
theorem ajw {K:W.Frag}{ca:Nat->Addr}{B:Hp}{σ:L2.St}{F H:Hp}{ow:Addr->Option Path}:∀ {j:Nat} {xs:List Aq} {vs:List V} {ss:List S},AqOk K ca B σ F H ow j xs vs->osOf xs=some ss->RI K ca F H ow [0] j ss vs
 | _,[],[],_,_,h=>by cases h;exact .nil
 | j,x::xs,v::vs,ss,av,h=>by
  cases x with
  | t s =>
   obtain⟨ts,h1,rfl⟩:=Option.map_eq_some_iff.mp h
   exact .cons av.1 (ajw (j:=j+1) av.2 h1)
  | d d =>
   obtain⟨ts,h1,rfl⟩:=Option.map_eq_some_iff.mp h
   exact .cons (.d av.1) (ajw (j:=j+1) av.2 h1)
  | _=>cases h
 | _,[],_::_,_,h,_=>h.elim
 | _,_::_,[],_,h,_=>h.elim
def gLos (as:List Aw):LS->R S:=λ L=>(cQ as L).bind λ xs L1=>match osOf xs with
 | some ss=>if ss.length<=sizeLine then .ok (.os ss) L1 else .stuck
 | none=>.stuck
section
variable {c:Ct}{es:List Expr}{as:List Aw}{pos:Pos}
theorem amg (h:JAw c es as):JE c false (.List es pos) (gLos as):=by
 obtain⟨t,p,q⟩:=h;refine⟨_,pe_lst p,λ G F ow σ H L Rr=>?_⟩
 have key:=(q 0 G F ow σ H L Rr).bind (n2:=false) (k:=λ xs L1=>match osOf xs with
  | some ss=>if ss.length<=sizeLine then .ok (.os ss) L1 else .stuck
  | none=>.stuck) (B2:=BE c.ca c.X.K) (t2:=λ vs H1 Q=>vs.length<=sizeLine/\∀ l,H1 l=none->Q (.ref l) (upd H1 l (.lst vs))) λ xs L1 vs H1 F1 ow1 _ _ _ R1 b1=>?_
 ·exact key
 cases ho:osOf xs with
 | none=>trivial
 | some ss =>
  refine Post.guard λ hz=>?_
  have ri:=ajw b1.1 ho
  intro Q q;refine⟨by rw[←RI.len ri];exact hz,λ l hl=>?_⟩;obtain⟨e,r'⟩:=R1.new (o:=.lst vs) (p:=[0]) hl;refine q _ _ F1 _ (Same.refl F1) (λ h=>by cases h) r' (.os upd_same (jK ..) (RI.move (Same.refl F1) _ _ _ _ _ (λ a q h=>?_) ri))
  have ha:a≠l:=jC (R1.dF a _ h).2.2.1 hl
  exact⟨upd_ne ha,by rw[iH ha];exact h⟩
end
theorem RI.ofAt {K:W.Frag}{ca:Nat->Addr}{F H:Hp}{ow:Addr->Option Path}{p:Path}:∀ {i:Nat} {ss:List S} {vs:List V},ss.length=vs.length->(∀ (m:Nat) (s:S),ss[m]?=some s->∃ v,vs[m]?=some v/\RS K ca F H ow (p++[i+m]) s v)->RI K ca F H ow p i ss vs
 | _,[],[],_,_=>.nil
 | i,s::ss,v::vs,hl,h=>by
  obtain⟨u,h1,h2⟩:=h 0 s rfl
  cases h1
  refine .cons h2 (RI.ofAt (Nat.succ.inj hl) λ m s' e=>?_)
  obtain⟨u2,h3,h4⟩:=h (m+1) s' e
  refine⟨u2,h3,?_⟩
  rw[show i+1+m=i+(m+1) by omega]
  exact h4
section
variable {c:Ct}{n:Bool}{e:Expr}{i:Nat}
open Classical in
end
section
variable {c:Ct}{n:Bool}{a b d:Expr}{gs:LS->R (List D)}{pos p:Pos}
end
section
variable {c:Ct}
end
section
variable {c:Ct}{e:Expr}{i:Nat}
def gViewT (g:LS->R Bool):LS->R Bool:=λ L=>match g (viewL L) with
 | .ok b _=>.ok b L
 | .err e _=>.err e L
 | .stuck=>.stuck
theorem ajx {n:Bool}{g:LS->R Bool}(h:JT c n e g):JT c true e (gViewT g):=by
 obtain⟨t,ht,hg⟩:=h;refine⟨t,ht,λ G F ow σ H L Rr=>?_⟩
 have key:=hg _ _ _ σ H _ Rr.view
 unfold gViewT
 cases hr:g (viewL L) with
 | stuck=>trivial
 | err e L1 =>
  rw[hr]at key;exact λ hw Q=>key (λ H' F' ow' e' r=>hw H' F ow (Same.refl F) (Rr.more (iU Rr e' r))) Q
 | ok d L1 =>
  rw[hr]at key;intro Q q;refine key Q λ v H' F' ow' e' _ r b=>?_
  have s:=iU Rr e' r
  exact q v H' F ow (Same.refl F) (λ _=>s) (Rr.more s) b
end
section
variable {c:Ct}{n1 n2:Bool}{a b:Expr}{ga gb:LS->R D}{pos:Pos}
end
section
variable {c:Ct}
end
section
variable {c:Ct}{pos:Pos}
end
section
variable {c:Ct}{n:Bool}{a:Expr}{ga:LS->R D}{pos p:Pos}
end
def BPq:W.Frag->Hp->Hp->(Addr->Option Path)->List (Key×D)->List (V×V)->Prop:=λ K F _ _ ds ps=>∃ kvs:List (Key×V),ps=kvs.map (λ kv=>(kV kv.1,kv.2))/\DqK K F kvs ds
def JPq (c:Ct)(n:Bool)(ks:List (Option Expr))(vs:List Expr)(g:LS->R (List (Key×D))):Prop:=∃ trs,(∀ pos,PPs c.X pos ks vs trs)/\Jdg c n g BPq (tPairs trs)
def gPNil:LS->R (List (Key×D)):=λ L=>.ok [] L
def gPCons (ga gb:LS->R D)(gr:LS->R (List (Key×D))):LS->R (List (Key×D)):=λ L=>(ga L).bind λ d L1=>(gb L1).bind λ e L2=>(gr L2).bind λ r L3=>match keyD d with
 | some k=>.ok ((k,e)::r) L3
 | none=>.stuck
def mergeD (kvs more:List (Key×D)):List (Key×D):=more.foldl (λ acc kv=>putD acc kv.1 kv.2) kvs
def gDlitN (g:LS->R (List (Key×D))):LS->R S:=λ L=>(g L).bind λ kvs L1=>if kvs.length<=15 then .ok (.odK (mergeD [] kvs)) L1 else .stuck
theorem DqK.merge {K:W.Frag}{F:Hp}:∀ {more:List (Key×V)} {ms:List (Key×D)} {kvs:List (Key×V)} {ds:List (Key×D)},DqK K F more ms->DqK K F kvs ds->DqK K F (mergeK kvs more) (mergeD ds ms):=by
 intro more ms kvs ds r
 unfold DqK at r
 induction r generalizing kvs ds with
 | nil=>intro q;exact q
 | @cons p q ps qs h t ih =>
  intro r0
  have e:DqK K F (putK kvs p.1 p.2) (putD ds q.1 q.2):=by
   rw[←h.1]
   exact r0.put p.1 h.2
  exact ih e
section
variable {c:Ct}{n n1 n2 n3:Bool}{a b:Expr}{ks:List (Option Expr)}{vs:List Expr}{ga gb:LS->R D}{gr:LS->R (List (Key×D))}{pos:Pos}
theorem adE:JPq c true [] [] gPNil:=⟨[],λ _=>pps_nil,λ G F ow σ H L Rr Q q=>q [] H F ow (Same.refl F) (λ _=>Same.refl H) Rr ⟨[],rfl,.nil⟩⟩
theorem jg (h1:JD c n1 a ga)(h2:JD c n2 b gb)(h3:JPq c n3 ks vs gr):JPq c (n1&&(n2&&n3)) (some a::ks) (b::vs) (gPCons ga gb gr):=by
 obtain⟨t1,p1,q1⟩:=h1;obtain⟨t2,p2,q2⟩:=h2;obtain⟨trs,p3,q3⟩:=h3;refine⟨(t1,t2)::trs,λ pos=>pps_cons p1 p2 (p3 pos),λ G F ow σ H L Rr=>?_⟩;refine(q1 G F ow σ H L Rr).bind (t2:=λ x H1 Q=>t2 σ H1 λ y H2=>tPairs trs σ H2 λ ps H3=>Q ((x,y)::ps) H3) λ d L1 x H1 F1 ow1 _ _ _ R1 b1=>?_;refine(q2 G F1 ow1 σ H1 L1 R1).bind (t2:=λ y H2 Q=>tPairs trs σ H2 λ ps H3=>Q ((x,y)::ps) H3) λ e L2 y H2 F2 ow2 _ e2 _ R2 b2=>?_
 have:=(q3 G F2 ow2 σ H2 L2 R2).bind (n2:=true) (k:=λ r L3=>match keyD d with
  | some k=>R.ok ((k,e)::r) L3
  | none=>R.stuck) (B2:=BPq c.X.K) (t2:=λ ps H3 Q=>Q ((x,y)::ps) H3) λ r L3 ps H3 F3 ow3 _ e3 _ R3 b3=>by
   cases hk:keyD d with
   | none=>trivial
   | some k =>
    obtain⟨kvs,rfl,hd⟩:=b3;refine Post.val (a:=(k,e)::r) (b:=(x,y)::kvs.map (λ kv=>(kV kv.1,kv.2))) (B:=BPq c.X.K) R3 ⟨(k,y)::kvs,?_,.cons ⟨rfl,Dq.up e3 b2⟩ hd⟩;rw[zX b1 hk]
    rfl
 rw[Bool.and_true]at this;exact this
theorem aa4 (h:JPq c n ks vs gr)(hall:ks.all (·.isSome)=true)(hl:ks.length=vs.length)(h0:ks≠[])(h15:ks.length<=15):JE c false (.Dict ks vs pos) (gDlitN gr):=by
 obtain⟨trs,p,q⟩:=h;refine⟨_,pe_disp (p pos) hall hl h0 h15,λ G F ow σ H L Rr=>?_⟩
 have main:∀ p,H p=none->G p=none->c.B p=none->Post c G false F H σ (gDlitN gr L) (BE c.ca c.X.K) (λ Q=>tPairs trs σ (upd H p (.dK [])) λ ps H2=>H2 p=some (.dK [])/\∃ kvs:List (Key×V),ps=kvs.map (λ kv=>(kV kv.1,kv.2))/\kvs.length<=15/\Q (.ref p) (upd H2 p (.dK (mergeK [] kvs)))):=by
  intro p hp hG hB;obtain⟨_,R0⟩:=Rr.newG (o:=.dK []) hp
  have h1:=q _ F ow σ _ L R0
  unfold gDlitN
  cases hr:gr L with
  | stuck=>trivial
  | err e L1 =>
   rw[hr]at h1;exact λ hw Q=>h1 (λ H' F' ow' e1 R1=>hw H' F' ow' e1 (R1.weakG hG)) _
  | ok ms L1 =>
   rw[hr]at h1;show Post c G false F H σ (if ms.length<=15 then R.ok (S.odK (mergeD [] ms)) L1 else .stuck) _ _
   by_cases hc:ms.length<=15
   ·rw[if_pos hc];intro Q qq;refine h1 _ λ ps H1 F1 ow1 e1 _ R1 b1=>?_;obtain⟨kvs,rfl,hk⟩:=b1;refine⟨R1.exG p _ upd_same,kvs,rfl,by rw[Paired.length hk];exact hc,?_⟩
    have R3:=R1.ownG (p:=[0]) (u:=.dK (mergeK [] kvs)) hG hB kT_dK kT_dK
    exact qq _ _ F1 _ e1 (λ z=>by cases z) R3 (.odK upd_same (jK ..) (DqK.merge hk .nil))
   ·rw[if_neg hc]
    trivial
 cases hr:gDlitN gr L with
 | stuck=>trivial
 | err e L1 =>
  intro hw Q p hp
  have h:=main p hp (Rr.exG.free hp) (Rr.exB.free hp)
  rw[hr]at h;exact h hw Q
 | ok s L1 =>
  intro Q q p hp
  have h:=main p hp (Rr.exG.free hp) (Rr.exB.free hp)
  rw[hr]at h;exact h Q q
end
section
variable {c:Ct}{n n1 n2:Bool}{a b k:Expr}{ge:LS->R S}{gk:LS->R D}{i:Nat}{lp sp p pos:Pos}{x:Str}{kk j N:Nat}{ps:List Str}{md:List Bool}{m:LS->R S}{e:Expr}{es:List Expr}{ev:LS->R (List Aq)}
end
section
variable {c:Ct}{n1 n2:Bool}{a b:Expr}{ga gb:LS->R D}{pos:Pos}{kk:Nat}
end
def flat:D->Bool
 | .tuple ds=>ds.all scal
 | d=>scal d
section
variable {K:W.Frag}{ca:Nat->Addr}{F F' H H':Hp}{ow ow':Addr->Option Path}
end
section
variable {c:Ct}{G F H:Hp}{ow:Addr->Option Path}{σ:L2.St}{L:LS}
end
section
variable {c:Ct}{n n1 n2:Bool}{a b:Expr}{ga gb:LS->R D}{ge:LS->R S}{gt:LS->R Bool}{pos:Pos}
end
section
variable {c:Ct}{n n1 n2:Bool}{k:Expr}{gk:LS->R D}{i j:Nat}{lp sp pos pos':Pos}{x:Str}{es:List Expr}{as:List Aw}{rest:List Stmt}{g0 g1:LS->R O}
theorem Rl.rown3 {G F H:Hp}{ow:Addr->Option Path}{σ:L2.St}{L:LS}(r:c.Rl G F ow σ H L)(f:Path->Option Path)(hf:∀ (i:Nat) (q:Path),f ((i+1)::q)=some ((i+1)::q)):c.Rl G F (λ a=>(ow a).bind f) σ H L:=by
 have go:∀ {a:Addr} {p:Path},(ow a).bind f=some p->∃ p',ow a=some p':=λ {a p} h=>by
  cases z:ow a with
  | none=>rw[z]at h;cases h
  | some p'=>exact⟨p',rfl⟩
 refine⟨r.exF,r.exG,λ a p h=>?_,r.dG,r.len,λ i s h=>?_,r.pin,r.exB,λ a p h=>?_⟩
 ·obtain⟨p',h'⟩:=go h;exact r.dF a p' h'
 ·obtain⟨v,q1,q2⟩:=r.sl i s h
  exact⟨v,q1,q2.go (Same.refl F) λ a w e=>⟨rfl,by
   have e:ow a=some ((i+1)::w):=e
   show(ow a).bind f=some ((i+1)::w);rw[e]
   exact hf i w⟩⟩
 ·obtain⟨p',h'⟩:=go h;exact r.dB a p' h'
end
section
variable {c:Ct}{n n1 n2:Bool}{a b e:Expr}{ga gb:LS->R D}{gs:LS->R (List D)}{pos p p2 apos:Pos}{ss:List Stmt}{st:Stmt}
end
theorem amh {X:Cx}:CallR X (.type "str") (λ xs H Q=>(∃ i,xs=[.int i]/\i.natAbs.log2 < 1920/\Q (.str (toString i)) H)∨∃ a,xs=[V.str a]/\Q (.str a) H):=by
 intro pins s σ H xs us Q I r h;rcases h with ⟨i,rfl,hz,q⟩ | ⟨a,rfl,q⟩
 ·exact call_str_int pins s σ H _ us Q I r ⟨i,rfl,hz,q⟩
 ·exact SkE.call_str_str pins s σ H _ us Q I r ⟨a,rfl,q⟩
def dStr:D->Option D
 | .int i=>if i.natAbs.log2 < 1920 then some (.str (toString i)) else none
 | .str a=>some (.str a)
 | _=>none
def dIntS:D->Option D
 | .str a=>if a.length<=640 then(PySem.intText? a).map .int else none
 | _=>none
def dSplit (d e:D):Option S:=match d,e with
 | .str a,.str b=>if(b.length == 0)=false/\a.length+2<=sizeLine then some (.ol ((Txt.split a b).map PyData.str)) else none
 | _,_=>none
def gSplit (ga gb:LS->R D):LS->R S:=λ L=>(ga L).bind (λ d L1=>match d with
 | .str a=>(gb L1).bind λ e L2=>ofO (dSplit (.str a) e) L2
 | _=>.stuck)
section
variable {c:Ct}{n n1 n2:Bool}{a b e:Expr}{ga gb:LS->R D}{gs:LS->R (List D)}{pos p p2 apos:Pos}
theorem z7 (hg:Gl c.X "str") (hm:c.X.mg "str"=none) (ha:JV c n a ga) (hs:starEach [a] c.X.env=(false,eval a c.X.env)::starEach [] c.X.env:=by rfl):JD c n (.Call (.Name "str" p) [a] [] pos) (gUn dStr ga) :=
 qK amh hg hm (by decide +kernel) ha (λ {G F H ow σ L d v} Rr hb=>by
  rcases hb with hb | ⟨l,vs,ds,rfl,rfl,h1,h2⟩
  ·cases hb with
   | int i =>
    show Post c G true F H σ (ofO (if i.natAbs.log2 < 1920 then some (PyData.str (toString i)) else none) L) _ _
    by_cases h:i.natAbs.log2 < 1920
    ·rw[if_pos h];exact(Post.val (a:=PyData.str (toString i)) (b:=V.str (toString i)) (B:=BD c.X.K) Rr (.str _)).imp λ Q q=>.inl ⟨i,rfl,h,q⟩
    ·rw[if_neg h]
     trivial
   | str x=>exact(Post.val (a:=PyData.str x) (b:=V.str x) (B:=BD c.X.K) Rr (.str _)).imp λ Q q=>.inr ⟨x,rfl,q⟩
   | _=>trivial
  ·trivial) (by decide) (by decide) hs rfl
theorem ajy (hg:Gl c.X "int") (hm:c.X.mg "int"=none) (ha:JV c n a ga) (hs:starEach [a] c.X.env=(false,eval a c.X.env)::starEach [] c.X.env:=by rfl):JD c n (.Call (.Name "int" p) [a] [] pos) (gUn dIntS ga) :=
 qK call_int_str hg hm (by decide +kernel) ha (λ {G F H ow σ L d v} Rr hb=>by
  rcases hb with hb | ⟨l,vs,ds,rfl,rfl,h1,h2⟩
  ·cases hb with
   | str x =>
    show Post c G true F H σ (ofO (if x.length<=640 then(PySem.intText? x).map PyData.int else none) L) _ _
    by_cases h:x.length<=640
    ·rw[if_pos h]
     cases hi:PySem.intText? x with
     | none=>trivial
     | some i=>exact(Post.val (a:=PyData.int i) (b:=V.int i) (B:=BD c.X.K) Rr (.int _)).imp λ Q q=>⟨x,i,rfl,hi,h,q⟩
    ·rw[if_neg h]
     trivial
   | _=>trivial
  ·trivial) (by decide) (by decide) hs rfl
theorem adF {ta tb:TE}(qa:Jdg c n1 ga BD ta)(qb:Jdg c n2 gb BD tb):Jdg c (n1&&n2) (gSplit ga gb) (BE c.ca) (tM1 (λ x xs H Q=>∃ a b,x=.str a/\xs=[.str b]/\(b.length == 0)=false/\a.length+2<=sizeLine/\rNewStrs (Txt.split a b) H Q) ta tb):=λ G F ow σ H L Rr=>by
 refine(qa G F ow σ H L Rr).bind (t2:=λ(v:V) H1 (Q:VK)=>(∃ a,v=V.str a)/\tb σ H1 λ y H2=>∃ a b,v=V.str a/\[y]=[V.str b]/\(b.length == 0)=false/\a.length+2<=sizeLine/\rNewStrs (Txt.split a b) H2 Q) λ d L1 v H1 F1 ow1 _ _ _ R1 b1=>?_
 cases b1 with
 | str x =>
  refine Post.imp (t:=λ Q=>tb σ H1 λ y H2=>∃ a b,V.str x=V.str a/\[y]=[V.str b]/\(b.length == 0)=false/\a.length+2<=sizeLine/\rNewStrs (Txt.split a b) H2 Q) ?_ λ Q q=>⟨⟨x,rfl⟩,q⟩;refine(qb G F1 ow1 σ H1 L1 R1).bind1 (t2:=λ y H2 Q=>∃ a b,V.str x=V.str a/\[y]=[V.str b]/\(b.length == 0)=false/\a.length+2<=sizeLine/\rNewStrs (Txt.split a b) H2 Q) λ e L2 u H2 F2 ow2 _ e2 _ R2 b2=>?_
  cases b2 with
  | str y =>
   show Post c G true F2 H2 σ (ofO (if(y.length == 0)=false/\x.length+2<=sizeLine then some (S.ol ((Txt.split x y).map PyData.str)) else none) L2) _ _
   by_cases h:(y.length == 0)=false/\x.length+2<=sizeLine
   ·rw[if_pos h];exact(lQ R2 (rZ (K:=c.X.K) (F:=F2) (Txt.split x y))).imp λ Q q=>⟨x,y,rfl,rfl,h.1,h.2,q⟩
   ·rw[if_neg h]
    trivial
  | _=>trivial
 | _=>trivial
theorem agD (ha:JD c n1 a ga)(hb:JD c n2 b gb)(hs:starEach [b] c.X.env=[(false,eval b c.X.env)]:=by rfl)(hbase:attributeBase a "split" c.X.env (eval a c.X.env)=eval a c.X.env:=by rfl) (hline:(apos.endLine == pos.line)=true:=by rfl) :
  JE c (n1&&n2) (.Call (.Attribute a "split" apos) [b] [] pos) (gSplit ga gb):=by
 obtain⟨ta,pa,qa⟩:=ha;obtain⟨tb,pb,qb⟩:=hb;exact⟨_,pe_split pa pb hs hbase hline,adF qa qb⟩
end
def KTab (K:PySem.W.Frag)(w:World)(t:Addr)(rows:List (Str×Str)):Prop:=(∃ es n,KDict K w t es n)/\∀ z:Str,∃ r,PySem.W.nsIn K t z=some r/\r.isSome=(rows.lookup z).isSome/\∀ y,rows.lookup z=some y->∃ u,r=some u/\RelV (V.str y) u
section
variable {c:Ct}{n n1 n2:Bool}{a b e:Expr}{ga gb:LS->R D}{pos p p2 apos:Pos}{t:Addr}{rows:List (Str×Str)}{x:Str}
def z8 (rows:List (Str×Str)):D->Option D
 | .str z=>some (.bool (!(rows.lookup z).isSome))
 | _=>none
def dTab (rows:List (Str×Str)):D->Option D
 | .str z=>(rows.lookup z).map .str
 | _=>none
theorem aoj {X:Cx}{o i:Expr}{to ti:TE}{d:Addr}{es:Array DictEntry}{m:Nat}{pos:Pos}(D:KDict X.K X.w d es m)(ho:PE X o to)(hi:PE X i ti)(hs:NoSl i):PE X (.Subscript o i pos) (λ σ H Q=>to σ H λ x H1=>ti σ H1 λ y H2=>∃ (z:Str) (u0:Value) (v0:V),x=.ref d/\y=.str z/\PySem.W.nsIn X.K d z=some (some u0)/\RelV v0 u0/\Q v0 H2):=by
 refine⟨λ pins s σ H Q I h=>?_⟩
 refine subD_of PySem.F.slot_dict_getitem.lookup hs (thn (ho.run pins s σ H _ I h) λ u s1 ⟨x,H1,I1,rx,q1⟩=>thn (hi.run pins s1 σ H1 _ I1 q1) λ iv s2 ⟨y,H2,I2,ry,q2⟩=>?_)
 have q3:=q2
 obtain⟨z,u0,v0,rfl,rfl,e,r,q⟩:=q2
 have hx:=rx
 cases rx
 exact⟨kd_type D I2,op_item_kd D pins s2 σ H2 _ _ _ _ Q I2 hx ry q3⟩
theorem ami (hg:Gl c.X x)(hm:∃ t,c.X.mg x=some (.ref t)/\KTab c.X.K c.X.w t rows)(ha:JD c n a ga)(hs:NoSl a:=by exact λ _ _=>rfl)(hd:(x == ("__debug__":Str))=false:=by decide):JD c n (.Subscript (.Name x p) a pos) (gUn (dTab rows) ga):=by
 obtain⟨ta,p1,q1⟩:=ha;obtain⟨t,h1,⟨es,m,D⟩,h2⟩:=hm;refine⟨_,aoj D (pe_glob (v:=.ref t) hg h1 rfl hd) p1 hs,λ G F ow σ H L Rr=>?_⟩;refine(q1 G F ow σ H L Rr).bind1 (t2:=λ y H2 Q=>∃ (z:Str) (u0:Value) (v0:V),V.ref t=.ref t/\y=.str z/\PySem.W.nsIn c.X.K t z=some (some u0)/\RelV v0 u0/\Q v0 H2) λ d L1 v H1 F1 ow1 _ _ _ R1 b1=>?_
 cases b1 with
 | str z =>
  show Post c G true F1 H1 σ (ofO ((rows.lookup z).map PyData.str) L1) _ _;obtain⟨r,e1,e2,e3⟩:=h2 z
  cases hz:rows.lookup z with
  | none=>trivial
  | some y =>
   obtain⟨u,rfl,e4⟩:=e3 y hz;exact(Post.val (a:=PyData.str y) (b:=V.str y) (B:=BD c.X.K) R1 (.str y)).imp λ Q q=>⟨z,u,V.str y,rfl,rfl,e1,e4,q⟩
 | _=>trivial
theorem ajz {ta:TE}(neg:Bool)(h2:∀ z:Str,∃ r,PySem.W.nsIn c.X.K t z=some r/\r.isSome=(rows.lookup z).isSome/\∀ y,rows.lookup z=some y->∃ u,r=some u/\RelV (V.str y) u)(q1:Jdg c n ga BD ta):Jdg c n (gUn (λ d=>match d with
  | .str z=>some (.bool (if neg then !(rows.lookup z).isSome else(rows.lookup z).isSome))
  | _=>none) ga) BD (λ σ H Q=>ta σ H λ y H2=>∃ (z:Str) (r:Option Value),y=.str z/\V.ref t=.ref t/\PySem.W.nsIn c.X.K t z=some r/\Q (V.bl (if neg then !r.isSome else r.isSome)) H2):=λ G F ow σ H L Rr=>by
 refine(q1 G F ow σ H L Rr).bind1 (t2:=λ y H2 Q=>∃ (z:Str) (r:Option Value),y=.str z/\V.ref t=.ref t/\PySem.W.nsIn c.X.K t z=some r/\Q (V.bl (if neg then !r.isSome else r.isSome)) H2) λ d L1 v H1 F1 ow1 _ _ _ R1 b1=>?_
 cases b1 with
 | str z =>
  obtain⟨r,e1,e2,e3⟩:=h2 z
  exact(Post.val (a:=PyData.bool (if neg then !(rows.lookup z).isSome else(rows.lookup z).isSome)) (b:=V.bl (if neg then !r.isSome else r.isSome)) (B:=BD c.X.K) R1 (by rw[e2];exact .bl _)).imp λ Q q=>⟨z,r,rfl,rfl,e1,q⟩
 | _=>trivial
theorem adG:(λ d:D=>match d with
  | .str z=>some (PyData.bool (if true then !(rows.lookup z).isSome else(rows.lookup z).isSome))
  | _=>none)=z8 rows:=by
 funext d
 cases d<;>rfl
theorem adH (hg:Gl c.X x)(hm:∃ t,c.X.mg x=some (.ref t)/\KTab c.X.K c.X.w t rows)(ha:JD c n a ga)(hd:(x == ("__debug__":Str))=false:=by decide):JT c n (.Compare a [.NotIn] [.Name x p] pos) (gB (gUn (z8 rows) ga)):=by
 obtain⟨ta,p1,q1⟩:=ha;obtain⟨t,h1,⟨es,m,D⟩,h2⟩:=hm;rw[←adG];exact⟨_,pt_cmpR (op_notIn_kd D) p1 (pe_glob (v:=.ref t) hg h1 rfl hd) rfl,afm (ajz true h2 q1)⟩
end
section
variable {c:Ct}{n n1 n2:Bool}{a b e:Expr}{ga gb gd gf:LS->R D}{pos p p2 apos:Pos}
def getX (i:Nat)(d e:D)(L:LS):R D:=match dictAt L[i]? d with
 | some r=>.ok (r.getD e) L
 | none=>.stuck
def gDGetX (i:Nat)(g f:LS->R D):LS->R D:=λ L=>match L[i]? with
 | some (some (.odT _))=>(g L).bind λ d L1=>(f L1).bind λ e L2=>getX i d e L2
 | some (some (.odK _))=>(g L).bind λ d L1=>(f L1).bind λ e L2=>getX i d e L2
 | _=>.stuck
theorem aa5 {e0:Expr}{i k:Nat}(hr:Room k c.X.A)(h:PSl c i e0)(ha:JD c n1 b gd)(hf:JD c n2 e gf)(m:M2 c.X e0 "get" apos b e pos:=by exact⟨rfl,rfl,rfl,rfl⟩):JD c (n1&&n2) (.Call (.Attribute e0 "get" apos) [b,e] [] pos) (gDGetX i gd gf):=by
 obtain⟨ta,pa,qa⟩:=ha;obtain⟨tf,pf,qf⟩:=hf;obtain⟨te,h,hte⟩:=h;refine⟨_,pe_dget2 (by have:=hr.un;omega) h pa pf m,λ G F ow σ H L Rr=>?_⟩
 have step:∀ (u:V) (l:Addr),u=.ref l->σ[i]?=some (some u)->IsD H l->Post c G (n1&&n2) F H σ ((gd L).bind λ d L1=>(gf L1).bind λ e L2=>getX i d e L2) (BD c.X.K) (tDGet2 te ta tf σ H):=λ u l hul hu hd=>by
  subst hul
  have key:=(qa G F ow σ H L Rr).bind (n2:=n2) (k:=λ d L1=>(gf L1).bind λ e L2=>getX i d e L2) (B2:=BD c.X.K) (t2:=λ y H1 Q=>tf σ H1 λ z H2=>∃ o,DGet H2 l y o/\Q (o.getD z) H2) λ d L1 y H1 F1 ow1 _ _ _ R1 b1=>by
    refine(qf G F1 ow1 σ H1 L1 R1).bind1 (t2:=λ z H2 Q=>∃ o,DGet H2 l y o/\Q (o.getD z) H2) λ e L2 w H2 F2 ow2 _ e2 _ R2 b2=>?_;unfold getX
    cases hr:dictAt L2[i]? d with
    | none=>trivial
    | some r =>
     obtain⟨l',o,h1,h2,h3⟩:=agy R2 (Dq.up e2 b1) hr;rw[hu]at h1
     cases h1
     cases r with
     | none =>
      have h3:o=none:=h3
      subst h3
      exact(Post.val (a:=e) (b:=w) (B:=BD c.X.K) R2 b2).imp λ Q q=>⟨none,h2,q⟩
     | some z' =>
      obtain⟨v,rfl,h3⟩:=h3;exact(Post.val (a:=z') (b:=v) (B:=BD c.X.K) R2 h3).imp λ Q q=>⟨some v,h2,q⟩
  exact key.imp λ Q q=>hte Rr hu _ ⟨l,rfl,hd,q⟩
 unfold gDGetX
 cases hL:L[i]? with
 | none=>trivial
 | some o =>
  cases o with
  | none=>trivial
  | some s =>
   obtain⟨u,hu,rs⟩:=Rr.sl i s hL
   cases s with
   | odT d =>
    cases rs with
    | odT h1 h2 h3=>exact step _ _ rfl hu (.inr ⟨_,.inl h1⟩)
   | odK d =>
    cases rs with
    | odK h1 h2 h3=>exact step _ _ rfl hu (.inl ⟨_,.inl h1⟩)
   | _=>trivial
end
inductive Zs where
 | l (a:Addr) (xs:List V)
 | t (x:Str)
def Zs.v:Zs->V
 | .l a _=>.ref a
 | .t x=>.str x
def Zs.len:Zs->Nat
 | .l _ xs=>xs.length
 | .t x=>x.cps.size
def Zs.at1:Zs->Nat->V->Prop
 | .l _ xs,i,v=>xs[i]?=some v
 | .t x,i,v=>∃ c,x.cps[i]?=some c/\v=.str ⟨#[c]⟩
def Zs.live (K:PySem.W.Frag)(H:Hp):Zs->Prop
 | .l a xs=>SqL K H a xs
 | .t _=>True
def Zs.st (it:Addr):Zs->Nat->Heap->Prop
 | .l a _,i,h=>h.IsListIter it a i
 | .t x,i,h=>∃ t,h.IsStrIter it (strIterType x) x t i
def Zs.ad:Zs->List Addr
 | .l a _=>[a]
 | .t _=>[]
theorem Zs.st_at {z:Zs}{it:Addr}{i:Nat}{h h':Heap}(hs:z.st it i h)(k:∀ o,h.get? it=some o->h'.get? it=some o):z.st it i h':=by
 cases z with
 | l a xs=>exact Heap.IsListIter.at hs k
 | t x =>
  obtain⟨t,o,e,q⟩:=hs;exact⟨t,o,k o e,q⟩
theorem Zs.st_obj {z:Zs}{it:Addr}{i:Nat}{h:Heap}(hs:z.st it i h):∃ o,h.get? it=some o/\∀ v,o.data≠.cell v:=by
 cases z with
 | l a xs =>
  obtain⟨o,e,_,d⟩:=hs;exact⟨o,e,λ v q=>by rw[d]at q;cases q⟩
 | t x =>
  obtain⟨t,o,e,_,d⟩:=hs;exact⟨o,e,λ v q=>by rw[d]at q;cases q⟩
section
variable {X:Cx}{pins:List (Addr×Obj)}{σ:L2.St}{H:Hp}{s:Shared}
theorem zdraw (I:Inv X pins σ H s)(hh:X.A.in1.handled=none)(z:Zs){it:Addr}{i:Nat}(hs:z.st it i s.heap)(lv:z.live X.K H)(hne:it∉z.ad) :
  ∃ (fp:List Addr) (P:Nat->Value->Prop) (St:Nat->Heap->Prop),Draws X.prog X.w X.A.in1 it fp z.len P St/\St i s.heap/\it∈fp/\(∀ b∈fp,b=it∨b∈z.ad)/\(∀ j h,St j h->z.st it j h) /\
   (∀ j v,P j v->∃ x,z.at1 j x/\RelV x v):=by
 cases z with
 | l a xs =>
  obtain⟨its,rv,p,_⟩:=I.list lv
  have hl:=rv.length
  have D:=Draws.list (prog:=X.prog) (w:=X.w) hh it a (λ e=>hne (by rw[e];exact List.mem_singleton.mpr rfl)) its.toArray
  have e0:its.toArray.size=(Zs.l a xs).len:=by
   show its.toArray.size=xs.length
   simp[hl]
  rw[e0]at D;refine⟨[it,a],_,_,D,⟨hs,p.isList⟩,List.mem_cons_self,λ b hb=>?_,λ j h q=>q.1,λ j v hv=>?_⟩
  ·simp only[List.mem_cons,List.not_mem_nil,or_false]at hb
   rcases hb with hb | hb
   ·exact .inl hb
   ·exact .inr (by rw[hb];exact List.mem_singleton.mpr rfl)
  ·have hv:its.toArray[j]?=some v:=hv
   have hv:its[j]?=some v:=by simpa using hv
   have hj:j < xs.length:=by
    have:=(List.getElem?_eq_some_iff.mp hv).1
    omega
   obtain⟨u,e1,e2⟩:=rv.get (List.getElem?_eq_getElem hj);rw[hv]at e1
   cases e1
   exact⟨xs[j],List.getElem?_eq_getElem hj,e2⟩
 | t x =>
  obtain⟨t,hs⟩:=hs;exact⟨[it],_,_,Draws.text hh it x t,hs,List.mem_singleton.mpr rfl,λ b hb=>.inl (List.mem_singleton.mp hb),λ j h q=>⟨t,q⟩,λ j v ⟨c,u,h1,h2⟩=>⟨.str ⟨#[c]⟩,⟨c,h1,rfl⟩,u,h2⟩⟩
theorem zbegin (I:Inv X pins σ H s)(z:Zs)(lv:z.live X.K H){u:Value}(ru:RelV z.v u):∃ (o:Obj) (Hb:Heap->Prop),Begins u o Hb/\Hb s.heap/\∀ h it,h.get? it=some o->z.st it 0 h:=by
 cases z with
 | l a xs =>
  obtain⟨its,rv,p,_⟩:=I.list lv
  cases ru
  exact⟨_,_,begins_list a its.toArray,p.isList,λ h it e=>⟨_,e,rfl,rfl⟩⟩
 | t x =>
  obtain⟨t,rfl⟩:=ru;exact⟨_,_,begins_text x t,trivial,λ h it e=>⟨t,_,e,rfl,rfl⟩⟩
end
structure ZG (z TI TO i1 i2:Addr)(as:List Addr):Prop where
 nd:[z,TI,TO,i1,i2].Nodup
 out:∀ a∈as,a∉[z,TI,TO,i1,i2]
def Itg (K:PySem.W.Frag)(s1 s2:Zs):It :=
 ⟨λ i H=>s1.live K H/\s2.live K H/\i < s1.len/\i < s2.len,
  λ i H v H'=>∃ T x y,v=.ref T/\H T=none/\H'=upd H T (.tup [x,y])/\s1.at1 i x/\s2.at1 i y,
  λ i H=>s1.live K H/\s2.live K H/\(s1.len<=i∨s2.len<=i)⟩
theorem zsep {z TI TO i1 i2:Addr}{as bs fp1 fp2:List Addr}(D:ZG z TI TO i1 i2 (as++bs))(m1:i1∈fp1)(m2:i2∈fp2)(h1:∀ b∈fp1,b=i1∨b∈as)(h2:∀ b∈fp2,b=i2∨b∈bs):ZipSep2 z TI TO i1 i2 fp1 fp2:=by
 have nd:=D.nd
 simp only[List.nodup_cons,List.mem_cons,List.not_mem_nil,or_false,not_or]at nd
 obtain⟨⟨n1,n2,n3,n4⟩,⟨n5,n6,n7⟩,⟨n8,n9⟩,n10,_⟩:=nd
 have oa:∀ b∈as,b∉[z,TI,TO,i1,i2]:=λ b hb=>D.out b (List.mem_append_left _ hb)
 have ob:∀ b∈bs,b∉[z,TI,TO,i1,i2]:=λ b hb=>D.out b (List.mem_append_right _ hb)
 have no1:∀ {c:Addr},c∈[z,TI,TO,i1,i2]->c≠i1->c∉fp1:=λ hc hne hm=>by
  rcases h1 _ hm with e | e
  ·exact hne e
  ·exact oa _ e hc
 have no2:∀ {c:Addr},c∈[z,TI,TO,i1,i2]->c≠i2->c∉fp2:=λ hc hne hm=>by
  rcases h2 _ hm with e | e
  ·exact hne e
  ·exact ob _ e hc
 exact { TIz:=λ e=>n1 e.symm,TOz:=λ e=>n2 e.symm,TITO:=n5,TIi1:=n6,mem1:=m1,zf1:=no1 (by simp) n3,Tf1:=no1 (by simp) n8,TIi2:=n7,mem2:=m2,zf2:=no2 (by simp) n4,Tf2:=no2 (by simp) n9,sep1_2:=no2 (by simp) n10,sep2_1:=no1 (by simp) λ e=>n10 e.symm }
theorem ajA {P:Program}{w:World}{K:PySem.W.Frag}{elts:List Expr}{kk:Nat}{tpos:Pos}{s1 s2:Zs}{z TI TO i1 i2:Addr}(D:ZG z TI TO i1 i2 (s1.ad++s2.ad)) :
  Turn P w K (.Tuple elts kk tpos) (Itg K s1 s2) [z,TI,TO,i1,i2] z (λ i h=>IsZip h z TI TO .none/\IsTupOf2 h TI (.ref i1) (.ref i2)/\(∃ x y,IsTupOf2 h TO x y)/\s1.st i1 i h/\s2.st i2 i h/\i<=s1.len/\i<=s2.len) where
 mem:=by simp
 obj:=λ i h st c hc=>by
  obtain⟨hz,hTI,⟨x,y,hTO⟩,h1,h2,b1,b2⟩:=st
  have e':c=z∨c=TI∨c=TO∨c=i1∨c=i2:=by simpa using hc
  rcases e' with q | q | q | q | q
  ·rw[q];exact⟨_,hz,λ v q=>nomatch q⟩
  ·rw[q];exact⟨_,hTI,λ v q=>nomatch q⟩
  ·rw[q];exact⟨_,hTO,λ v q=>nomatch q⟩
  ·rw[q];exact Zs.st_obj h1
  ·rw[q];exact Zs.st_obj h2
 keep:=λ i h h' st k=>by
  obtain⟨hz,hTI,⟨x,y,hTO⟩,h1,h2,b1,b2⟩:=st
  exact⟨k z (by simp) _ hz,k TI (by simp) _ hTI,⟨x,y,k TO (by simp) _ hTO⟩,Zs.st_at h1 (λ o q=>k i1 (by simp) o q),Zs.st_at h2 (λ o q=>k i2 (by simp) o q),b1,b2⟩
 item:=by
  intro X hP hw hK hc i pins s σ H E I hf st hg
  subst hP hw hK
  obtain⟨hz,hTI,⟨x0,y0,hTO⟩,h1,h2,b1,b2⟩:=st
  obtain⟨lv1,lv2,hlt1,hlt2⟩:=hg
  have hh:X.A.in1.handled=none:=I.ok.hd hc
  have o1:i1∉s1.ad:=λ e=>D.out i1 (List.mem_append_left _ e) (by simp)
  have o2:i2∉s2.ad:=λ e=>D.out i2 (List.mem_append_right _ e) (by simp)
  obtain⟨fp1,P1,St1,D1,q1,m1,f1,g1,v1⟩:=zdraw I hh s1 h1 lv1 o1
  obtain⟨fp2,P2,St2,D2,q2,m2,f2,g2,v2⟩:=zdraw I hh s2 h2 lv2 o2
  have S:=zsep D m1 m2 f1 f2
  have nd:=D.nd
  simp only[List.nodup_cons,List.mem_cons,List.not_mem_nil,or_false,not_or]at nd
  obtain⟨⟨k1,k2,k3,k4⟩,⟨k5,k6,k7⟩,⟨k8,k9⟩,k10,_⟩:=nd
  have hzl:z < s.heap.objs.size:=Heap.lt_size hz
  refine wpAny_pyNext_zipD2_item S D1 D2 hz hTI hTO q1 q2 hlt1 hlt2 λ u1 u2 h' tk p1 p2 z' TO' st1' st2' hT hsz hk=>?_
  obtain⟨x1,r1,w1⟩:=v1 _ _ p1
  obtain⟨x2,r2,w2⟩:=v2 _ _ p2
  refine⟨_,rfl,wpAny_letOwnedTupleGo_zip (s:={ s with heap:=h',toks:=tk }) z' λ h'' z'' sb=>?_⟩
  have hT2:h''.get? s.heap.objs.size=some { cls:=.type "tuple",data:=.seq #[u1,u2] }:=(sb.2 _ (Nat.ne_of_gt hzl)).trans hT
  have new:ObjOk X.prog X.w (upd H s.heap.objs.size (.tup [x1,x2])) h'' s.heap.objs.size (.tup [x1,x2]) :=
   ⟨by show 2<=sizeLine;decide,[u1,u2],.cons w1 (.cons w2 .nil),⟨_,hT2,rfl,_,rfl⟩⟩
  have I1:Inv X pins σ (upd H s.heap.objs.size (.tup [x1,x2])) { s with heap:=h'',toks:=tk } :=
   I.turnedNew (t':=tk) (ch:=[z,TI,TO,i1,i2]) (λ c o hb q=>(sb.2 c (λ q'=>hb (by simp[q']))).trans (hk c o (λ q'=>hb (by simp[q'])) (λ q'=>hb (by simp[q'])) (λ q'=>hb (by simp[q'])) (λ q'=>hb (by simp[q'])) q)) hf (Nat.le_refl _) new
  refine⟨.ref s.heap.objs.size,_,I1,rfl,⟨_,x1,x2,rfl,I.hok.fresh (Nat.le_refl _),rfl,r1,r2⟩,⟨z'',?_,⟨u1,u2,?_⟩,?_,?_,hlt1,hlt2⟩,λ c hcm=>?_⟩
  ·exact(sb.2 _ (λ e=>k1 e.symm)).trans (hk _ _ (λ e=>k1 e.symm) k5 k6 k7 hTI)
  ·exact(sb.2 _ (λ e=>k2 e.symm)).trans TO'
  ·exact Zs.st_at (g1 _ _ st1') λ o q=>(sb.2 _ (λ e=>k3 e.symm)).trans q
  ·exact Zs.st_at (g2 _ _ st2') λ o q=>(sb.2 _ (λ e=>k4 e.symm)).trans q
  ·have hlt:c < s.heap.objs.size:=by
    have e':c=z∨c=TI∨c=TO∨c=i1∨c=i2:=by simpa using hcm
    rcases e' with q | q | q | q | q
    ·rw[q];exact hzl
    ·rw[q];exact Heap.lt_size hTI
    ·rw[q];exact Heap.lt_size hTO
    ·rw[q];obtain⟨_,e1,_⟩:=Zs.st_obj h1;exact Heap.lt_size e1
    ·rw[q];obtain⟨_,e2,_⟩:=Zs.st_obj h2;exact Heap.lt_size e2
   rw[upd_ne (Nat.ne_of_lt hlt)]
   exact(hf c hcm).1
 done:=by
  intro X hP hw hK hc i pins s σ H E I hf st hg
  subst hP hw hK
  obtain⟨hz,hTI,⟨x0,y0,hTO⟩,h1,h2,b1,b2⟩:=st
  obtain⟨lv1,lv2,hend⟩:=hg
  have hh:X.A.in1.handled=none:=I.ok.hd hc
  have o1:i1∉s1.ad:=λ e=>D.out i1 (List.mem_append_left _ e) (by simp)
  have o2:i2∉s2.ad:=λ e=>D.out i2 (List.mem_append_right _ e) (by simp)
  obtain⟨fp1,P1,St1,D1,q1,m1,f1,g1,v1⟩:=zdraw I hh s1 h1 lv1 o1
  obtain⟨fp2,P2,St2,D2,q2,m2,f2,g2,v2⟩:=zdraw I hh s2 h2 lv2 o2
  have S:=zsep D m1 m2 f1 f2
  have he:i=s1.len∨i=s2.len:=by
   rcases hend with q | q
   ·exact .inl (Nat.le_antisymm b1 q)
   ·exact .inr (Nat.le_antisymm b2 q)
  exact wpAny_pyNext_zipD2_end S D1 D2 hz hTI hTO q1 q2 b1 b2 he λ h' tk hk=>⟨rfl,I.turnedL (t':=tk) (ch:=[z,TI,TO,i1,i2]) (λ c o hb q =>
   hk c o (λ q'=>hb (by simp[q'])) (λ q'=>hb (by simp[q'])) (λ q'=>hb (by simp[q'])) (λ q'=>hb (by simp[q'])) q) hf⟩
 self:=λ A i s Q E st h=>wpAny_pyIter_zip st.1 h
def iZg (K:PySem.W.Frag)(ta:TA):TI:=λ σ H R=>ta σ H λ vs H1=>∃ s1 s2:Zs,vs=[s1.v,s2.v]/\s1.live K H1/\s2.live K H1/\R (Itg K s1 s2) H1
theorem aok {X:Cx}{e e2:Expr}{ta:TA}{p pos tpos:Pos}{elts:List Expr}{kk:Nat}(hg:Gl X "zip") (hm:X.mg "zip"=none) (ha:PA X [e,e2] ta)
  (hs:starEach [e,e2] X.env=(false,eval e X.env)::starEach [e2] X.env:=by rfl) (hpl:(backTo pos (starEach [e2] X.env)).any (·.1)=false:=by rfl) :
  PI X (.Tuple elts kk tpos) (.Call (.Name "zip" p) [e,e2] [] pos) (iZg X.K ta):=by
 refine⟨λ pins s σ H R I h=>?_⟩;refine Call_ (ld_blt I hg hm PyProof.Rows.boot_zip (PyProof.Rows.callWith_type1 (thn (ha.run pos pins s σ H _ I h) λ us s1 ⟨vs,H1,I1,r1,q1⟩=>?_) hs hpl));obtain⟨za,zb,ex,la,lb,q⟩:=q1
 subst ex
 cases r1 with
 | cons r rr =>
  cases rr with
  | cons r' rr =>
   cases rr
   obtain⟨oa,Ha,Ba,ha1,ha2⟩:=zbegin I1 za la r;obtain⟨ob,Hb,Bb,hb1,hb2⟩:=zbegin I1 zb lb r'
   have old:∀ (zz:Zs),zz.live X.K H1->∀ a∈zz.ad,a < s1.heap.objs.size:=λ zz lv a ha=>by
    cases zz with
    | l b xs =>
     obtain⟨its,rv,p1,_⟩:=I1.list lv;rw[List.mem_singleton.mp ha];exact p1.lt
    | t x=>cases ha
   refine zip_begins2 Ba Bb ha1 hb1 λ h' hz hTI hTO h1 h2 hsz hk=>wpAny_pyIter_zip hz ?_
   have I2:Inv X pins σ H1 { s1 with heap:=h' }:=I1.kept (t':=s1.toks) hk
   refine⟨s1.heap.objs.size+4,[s1.heap.objs.size+4,s1.heap.objs.size+2,s1.heap.objs.size+3,s1.heap.objs.size,s1.heap.objs.size+1],_,_,H1,rfl,I2,ajA ⟨?_,λ a ham hin=>?_⟩,⟨hz,hTI,⟨_,_,hTO⟩,ha2 _ _ h1,hb2 _ _ h2,Nat.zero_le _,Nat.zero_le _⟩,λ c hcm=>?_,q⟩
   ·generalize s1.heap.objs.size=N
    show([(N+4:Nat),(N+2:Nat),(N+3:Nat),(N:Nat),(N+1:Nat)]:List Nat).Nodup
    simp
   ·have hlt:a < s1.heap.objs.size:=by
     rcases List.mem_append.mp ham with e | e
     ·exact old za la a e
     ·exact old zb lb a e
    have e':a=s1.heap.objs.size+4∨a=s1.heap.objs.size+2∨a=s1.heap.objs.size+3∨a=s1.heap.objs.size∨a=s1.heap.objs.size+1:=by simpa using hin
    have gen:∀ (N a:Nat),a < N->¬ (a=N+4∨a=N+2∨a=N+3∨a=N∨a=N+1):=λ N a h=>by omega
    exact gen _ _ hlt e'
   ·have e':c=s1.heap.objs.size+4∨c=s1.heap.objs.size+2∨c=s1.heap.objs.size+3∨c=s1.heap.objs.size∨c=s1.heap.objs.size+1:=by simpa using hcm
    have hle:s1.heap.objs.size<=c:=by
     rcases e' with z | z | z | z | z
     ·rw[z];exact Nat.le_add_right _ _
     ·rw[z];exact Nat.le_add_right _ _
     ·rw[z];exact Nat.le_add_right _ _
     ·rw[z];exact Nat.le_refl _
     ·rw[z];exact Nat.le_add_right _ _
    exact I1.fpOk hle (I1.hok.fresh hle)
def zsrc:D->Option (List D)
 | .list ds=>some ds
 | .str x=>some (x.cps.toList.map λ n=>.str ⟨#[n]⟩)
 | _=>none
def asZg:List D->LS->R (List D)
 | [a,b],L=>(match zsrc a,zsrc b with
  | some xs,some ys=>.ok (zipD xs ys) L
  | _,_=>.stuck)
 | _,_=>.stuck
theorem amj {K:PySem.W.Frag}{F H:Hp}{d:D}{v:V}{ds:List D}(eF:Same F H)(q:Dq K F v d)(h:zsrc d=some ds):∃ z:Zs,v=z.v/\z.live K H/\z.len=ds.length/\(∀ H',Same F H'->z.live K H')/\∀ (i:Nat) (x:V) (e:D),z.at1 i x->ds[i]?=some e->Dq K F x e:=by
 cases q with
 | @lst a xs _ h1 h2 =>
  cases h
  refine⟨.l a xs,rfl,.of (eF _ _ h1),h2.len,λ H' s=>.of (s _ _ h1),λ i x e hx he=>?_⟩
  obtain⟨u,q1,q2⟩:=h2.get he
  have hx:xs[i]?=some x:=hx
  rw[hx]at q1
  cases q1
  exact q2
 | str x =>
  cases h
  refine⟨.t x,rfl,trivial,by show x.cps.size=_;simp,λ _ _=>trivial,λ i y e hy he=>?_⟩
  obtain⟨n,q1,rfl⟩:=hy
  rw[List.getElem?_map,Array.getElem?_toList,q1]at he
  cases he
  exact .str _
 | _=>cases h
section
variable {c:Ct}{n:Bool}{a b:Expr}{gs:LS->R (List D)}{p pos:Pos}
theorem ajB {tpos:Pos}{elts:List Expr}{kk:Nat}(hg:Gl c.X "zip") (hm:c.X.mg "zip"=none) (h:JA c n [a,b] gs)
  (hs:starEach [a,b] c.X.env=(false,eval a c.X.env)::starEach [b] c.X.env:=by rfl) (hpl:(backTo pos (starEach [b] c.X.env)).any (·.1)=false:=by rfl) :
  JI c n (.Tuple elts kk tpos) (.Call (.Name "zip" p) [a,b] [] pos) (λ L=>(gs L).bind asZg):=by
 obtain⟨t,q,k⟩:=h;refine⟨_,aok hg hm q hs hpl,λ G F ow σ H L Rr=>(k G F ow σ H L Rr).bind1 (t2:=λ vs H1 Q=>∃ s1 s2:Zs,vs=[s1.v,s2.v]/\s1.live c.X.K H1/\s2.live c.X.K H1/\Q (Itg c.X.K s1 s2) H1) λ ds L1 vs H1 F1 ow1 _ _ _ R1 b1=>?_⟩;show Post c G true F1 H1 σ (asZg ds L1) _ _
 match ds,vs,b1 with
 | [d1,d2],_,.cons (v:=v1) r1 (.cons (v:=v2) r2 .nil) =>
  cases h1:zsrc d1 with
  | none =>
   have e:asZg [d1,d2] L1=.stuck:=by simp only[asZg,h1]
   rw[e]
   trivial
  | some xs =>
   cases h2:zsrc d2 with
   | none =>
    have e:asZg [d1,d2] L1=.stuck:=by simp only[asZg,h1,h2]
    rw[e]
    trivial
   | some ys =>
    have e:asZg [d1,d2] L1=.ok (zipD xs ys) L1:=by simp only[asZg,h1,h2]
    rw[e];obtain⟨z1,rfl,l1,n1,k1,g1⟩:=amj R1.exF r1 h1;obtain⟨z2,rfl,l2,n2,k2,g2⟩:=amj R1.exF r2 h2;refine(Post.val (a:=zipD xs ys) (b:=Itg c.X.K z1 z2) (B:=BI c.B c.X.K) R1 λ i H s _=>⟨λ hi=>⟨k1 _ s,k2 _ s,?_⟩,λ d hd=>?_⟩).imp λ Q q=>⟨z1,z2,rfl,l1,l2,q⟩
    ·rw[ww]at hi;rw[n1,n2]
     omega
    ·obtain⟨x,y,hx,hy,rfl⟩:=wy hd;refine⟨⟨k1 _ s,k2 _ s,by rw[n1];exact(List.getElem?_eq_some_iff.mp hx).1,by rw[n2];exact(List.getElem?_eq_some_iff.mp hy).1⟩,λ x' H' ⟨T,x1,y1,e1,e2,e3,e4,e5⟩=>.inr ⟨T,[x1,y1],[x,y],rfl,e1,e2,e3,.cons (g1 _ _ _ e4 hx) (.cons (g2 _ _ _ e5 hy) .nil)⟩⟩
 | [],_,_=>trivial
 | [_],_,_=>trivial
 | _::_::_::_,_,_=>trivial
end
end VS
namespace VS
open PySem PySem.Spec PyProof.Rows L2 CwR
def txIdx (k:Str)(ys:List Str):Option Nat:=ys.findIdx? λ y=>y == k
def dIdx:D->D->Option D
 | .list ds,.str k=>(strsOf ds).bind λ ys=>(txIdx k ys).map λ j=>.int (j:Nat)
 | _,_=>none
def idxL (gb:LS->R D):D->LS->R D
 | .list ds,L1=>(gb L1).bind λ e L2=>ofO (dIdx (.list ds) e) L2
 | _,_=>.stuck
def aaa (ga gb:LS->R D):LS->R D:=λ L=>(ga L).bind (idxL gb)
section
variable {c:Ct}{n n1 n2:Bool}{a b e:Expr}{es:List Expr}{ga gb:LS->R D}{gs:LS->R (List D)}{pos p p2 apos:Pos}
theorem adI (ha:JV c n1 a ga)(hb:JD c true b gb)
  (hbase:attributeBase a "index" c.X.env (eval a c.X.env)=eval a c.X.env:=by rfl)
  (hfew:((backTo pos (starEach [b] c.X.env)).all (λ x=>!x.1)&&(backToKw pos (keywordEach [] c.X.env)).all (λ x=>x.1.isSome)&&decide ([b].length+([]:List Keyword).length+(if([]:List Keyword).isEmpty then 0 else 1) < 30))=true:=by rfl)
  (hline:(apos.endLine == pos.line)=true:=by rfl) (hs:starEach [b] c.X.env=(false,eval b c.X.env)::starEach [] c.X.env:=by rfl) (hplain:(backTo pos (starEach [] c.X.env)).any (·.1)=false:=by rfl) :
  JD c n1 (.Call (.Attribute a "index" apos) [b] [] pos) (aaa ga gb):=by
 obtain⟨ta,p1,q1⟩:=ha;obtain⟨tb,p2,q2⟩:=hb;refine⟨_,pe_bm PySem.F.plainAttrs_list PySem.F.slot_list_index PySem.F.type_list_index mt_index p1 (pa_cons p2 pa_nil hs) hbase hfew hline hs hplain,λ G F ow σ H L Rr=>?_⟩;refine(q1 G F ow σ H L Rr).bind1 (t2:=λ v H1 Q=>tyV c.X.K "list" v H1/\tb σ H1 λ y H2=>rIndex c.X.K v [y] H2 Q) λ d L1 v H1 F1 ow1 _ _ _ R1 b1=>?_
 cases d with
 | list ds =>
  obtain⟨l,vs,rfl,h1,h2⟩:=adf R1 b1
  have key:=(q2 G F1 ow1 σ H1 L1 R1).bind1 (k:=λ e L2=>ofO (dIdx (.list ds) e) L2) (B2:=BD c.X.K) (t2:=λ y H2 Q=>rIndex c.X.K (.ref l) [y] H2 Q) λ e L2 u H2 F2 ow2 _ e2 s2 R2 b2=>by
   cases b2 with
   | str k =>
    show Post c G true F2 H2 σ (ofO ((strsOf ds).bind λ ys=>(txIdx k ys).map λ j=>PyData.int (j:Nat)) L2) _ _
    cases hk:strsOf ds with
    | none=>trivial
    | some ys =>
     cases hj:txIdx k ys with
     | none=>show Post c G true F2 H2 σ (ofO (((some ys).bind λ ys=>(txIdx k ys).map λ j=>PyData.int (j:Nat))) L2) _ _;rw[show((some ys).bind λ ys=>(txIdx k ys).map λ j=>(PyData.int (j:Nat):D))=none by simp[hj]];trivial
     | some j =>
      rw[show((some ys).bind λ ys=>(txIdx k ys).map λ j=>(PyData.int (j:Nat):D))=some (PyData.int (j:Nat)) by simp[hj]]
      have e3:=tG h2 hk
      have hs3:SqL c.X.K H2 l (ys.map V.str):=by rw[←e3];exact sql_same (s2 rfl) h1
      obtain⟨hjl,hje,hjn⟩:=List.findIdx?_eq_some_iff_getElem.mp hj;refine(Post.val (a:=PyData.int (j:Nat)) (b:=V.int (j:Nat)) (B:=BD c.X.K) R2 (.int _)).imp λ Q q=>⟨l,ys.map V.str,.str k,j,.str ys[j],rfl,rfl,hs3,rfl,?_,?_,hje,λ m z hm hz=>?_,q⟩
      ·rw[List.all_map];exact List.all_eq_true.mpr λ _ _=>rfl
      ·rw[List.getElem?_map,List.getElem?_eq_getElem hjl]
       rfl
      ·rw[List.getElem?_map,List.getElem?_eq_getElem (Nat.lt_trans hm hjl)]at hz
       cases hz
       exact Bool.eq_false_iff.mpr (hjn m hm)
   | _=>trivial
  exact key.imp λ Q q=>⟨.inl ⟨rfl,_,h1⟩,q⟩
 | _=>trivial
end
section
variable {c:Ct}{n n1 n2:Bool}{a b e:Expr}{ga gb:LS->R D}{pos p p2 apos:Pos}{st:Stmt}{rest:List Stmt}{g g1 g2:LS->R O}
end
end VS
namespace VS
open PySem PySem.Spec PyProof.Rows L2
section
variable {c:Ct}{p pos apos:Pos}
end
section
variable {c:Ct}{a b e0:Expr}{gb:LS->R D}{pos:Pos}{i:Nat}
end
end VS
set_option maxHeartbeats 2000000
namespace VS
open PySem PySem.Spec PyProof PyProof.Rows L2 HandSPX
section
variable {M:Model}{A:Around}{E:Value->Shared->Prop}{s:Shared}{env:Env}
theorem tM {env':Env}(h:env'.frame=env.frame)(u:Value):noteFrame u env'=noteFrame u env:=by
 unfold noteFrame PySem.frameOf;rw[h]
def postF (E:Value->Shared->Prop)(fr:Option Addr)(M:Model)(A:Around)(use:Option (Value->Sem Unit))(Q:Value->Shared->Prop)(acc:Value)(C:Addr)(r:Result)(s':Shared):Prop :=
 match r,use with
 | .ok _,none=>∃ m,s'.heap.Ns C m/\∀ h',Heap.SameBut C s'.heap h'->Q acc { s' with heap:=h' }
 | .ok _,some u=>wpAny M A (u acc) (λ _ s''=>∃ m,s''.heap.Ns C m/\∀ h',Heap.SameBut C s''.heap h'->Q .none { s'' with heap:=h' }) E s'
 | .error x,_=>∃ m,s'.heap.Ns C m/\∀ h',Heap.SameBut C s'.heap h'->∀ cenv:Env,cenv.frame=fr->wpAny M A (passOn "comprehension.variables-let-go" x cenv:Sem Value) (λ _ _=>False) E { s' with heap:=h' }
theorem aab {e:Expr}{scope:Scope}{pos:Pos}{newAcc first:Sem Value}{g:Comprehension}{gs:List Comprehension}{cl:List (Str×Addr)}{use:Option (Value->Sem Unit)}{Q:Value->Shared->Prop}
  (hcl:clausesOf e=g::gs) (hs:∀ x,foldedSetIterable g.iter env x=pure x) (hclos:closureFor scope env=pure cl) (hkind:scope.kind=.function) (hnames:∀ x∈scope.names,x.2=.local->scope.names.lookup x.1=some .local)
  (h:wpAny M A first (λ x s₁=>wpAny M A (pyIter x) (λ it s₂=>wpAny M A newAcc (λ acc s₃=>wpAny M A (newFunctionEnv scope env.globals cl [] env.qual none .none (some env)) (λ cenv s₄ =>
    codeAny M A (.compStart e 0 it acc { cenv with scope:=relabel scope env }) (postF E cenv.frame M A use Q acc cenv.locals) s₄) E s₃) E s₂) E s₁) E s) :
  wpAny M A (comprehension e scope env pos newAcc false first use) Q E s:=by
 unfold comprehension;rw[hclos,hcl]
 refine wpAny_bind (wpAny_mono h (λ x s₁ h₁=>wpAny_bind (wpAny_standAt (wpAny_bind (wpAny_of_eq (hs x) (wpAny_bind (wpAny_holding (wpAny_mono h₁ (λ it s₂ h₂ =>
  wpAny_standIf (wpAny_bind (wpAny_mono h₂ (λ acc s₃ h₃=>wpAny_bind (wpAny_pure (wpAny_bind (wpAny_mono h₃ (λ cenv s₄ h₄=>?_) λ _ _ h'=>h')))) λ _ _ h'=>h'))) λ _ _ h'=>h'))))))) λ _ _ h'=>h')
 dsimp only
 have loc:∀ x∈scope.names,x.2=.local->Env.kindOf { cenv with scope:=relabel scope env } x.1=some .local:=λ x hx hl=>lookup_relabel_local (hnames x hx hl)
 have hv:∀ x∈(scope.names.filter λ x=>(x.2 == .local||x.2 == .cell)&&x.1 != (".0":Str)).reverse,x.2=.local->Env.kindOf { cenv with scope:=relabel scope env } x.1=some .local :=
  λ x hx hl=>loc x (List.mem_filter.mp (List.mem_reverse.mp hx)).1 hl
 have hv':∀ x∈(scope.names.filter λ x=>(x.2 == .local||x.2 == .cell)&&x.1 != (".0":Str)).reverse.drop 1++(scope.names.filter λ x=>(x.2 == .local||x.2 == .cell)&&x.1 != (".0":Str)).reverse.take 1,
   x.2=.local->Env.kindOf { cenv with scope:=relabel scope env } x.1=some .local:=λ x hx hl=>by
  rcases List.mem_append.mp hx with z | z
  ·exact hv x (List.mem_of_mem_drop z) hl
  ·exact hv x (List.mem_of_mem_take z) hl
 refine wpAny_holding (wpAny_bind (wpAny_attempt (wpAny_holding (wpAny_run (codeAny_mono h₄ λ r s' hr=>?_)))))
 cases r with
 | ok f =>
  cases use with
  | none =>
   obtain⟨m,hn,hr⟩:=hr;exact wpAny_bind (wpAny_holding (wpAny_comp_letGo (cenv:={ cenv with scope:=relabel scope env }) hkind _ s' m hv hn λ h' m' _ hs'=>wpAny_pure (hr h' hs')))
  | some u =>
   refine wpAny_bind (wpAny_rule (wpAny_bind (wpAny_holding (wpAny_mono hr (λ _ s'' hr'=>?_) λ _ _ h'=>h'))));obtain⟨m,hn,hr'⟩:=hr';exact wpAny_bind (wpAny_comp_letGo (cenv:={ cenv with scope:=relabel scope env }) hkind _ s'' m hv' hn λ h' m' _ hs'=>wpAny_pure (hr' h' hs'))
 | error x =>
  have hr':∃ m,s'.heap.Ns cenv.locals m/\∀ h',Heap.SameBut cenv.locals s'.heap h'->∀ cenv':Env,cenv'.frame=cenv.frame->wpAny M A (passOn "comprehension.variables-let-go" x cenv':Sem Value) (λ _ _=>False) E { s' with heap:=h' }:=by cases use<;>exact hr
  obtain⟨m,hn,hr⟩:=hr';exact wpAny_bind (wpAny_holding (wpAny_comp_letGo (cenv:={ cenv with scope:=relabel scope env }) hkind _ s' m hv hn λ h' m' _ hs'=>wpAny_mono (hr h' hs' _ rfl) (λ _ _ f=>f.elim) λ _ _ y=>y))
end
section
variable {M:Model}{A:Around}{E:Value->Shared->Prop}{s:Shared}{env:Env}{outer:List Env}{base:Heap}{e L L':Addr}{Z:Obj->Prop}
theorem adJ {fl:Value}{Q:Unit->Shared->Prop}(hZ:Steady Z)(hfr:A.frames=some (env::outer))(hf:env.frame=some L)(hfl:(fl == rawInt L)=false)
  (hkb:base.StaysIn s.heap) (hen:base.get? e=none) (hl:s.heap.FunFrames base (env::outer)) (ht:TracedZ s.heap base e Z fl)
  (hQ:∀ h',HeldZ base (env::outer) e Z L h'->s.heap.UpToSlots h'->Q () { s with heap:=h' }):wpAny M A (noteFrame (.ref e) env) Q E s:=by
 obtain⟨oe,vs,T,oT,ts,he,hz,hd,h1,hnT,hTe,hT,hdT,h3⟩:=ht;unfold noteFrame
 simp only[hf]
 refine wpAny_bind (wpAny_field he hd h1 ?_);rw[if_pos (show(Value.ref T != Value.none)=true from by simp)];refine wpAny_bind (wpAny_field hT hdT h3 ?_);rw[if_neg (by rw[hfl];exact Bool.false_ne_true)];refine wpAny_bind (wpAny_setField hT hdT (Array.getElem?_eq_some_iff.mp h3).1 ?_)
 have other:∀ b,b≠T->(s.heap.update T (Obj.mapFields (·.setIfInBounds 3 Value.none))).get? b=s.heap.get? b:=λ b hb=>Heap.get?_update_other _ _ (Ne.symm hb)
 have noRecord:∀ b o,s.heap.get? b=some o->(∀ vs,o.data≠.fields vs)->b≠T:=λ b o hb hnf q=>by
  rw[q,hT]at hb;injection hb with hb;subst hb;exact hnf ts hdT
 refine wpAny_entryZ hZ hfr (hl.of_keeps λ b o hb hnf=>⟨o,(other b (noRecord b o hb hnf)).trans hb,rfl⟩) hf ((other e (Ne.symm hTe)).trans he)
  (λ b o hbo=>(other b λ q=>by rw[q,hnT]at hbo;cases hbo).trans (hkb b o hbo)) hen hd (Array.getElem?_eq_some_iff.mp h1).1 hz λ h' hN=>?_
 obtain⟨x1,x2,x3,x4⟩:=hN;exact hQ h' ⟨x1,hen,x2,x3⟩ λ b o hb hnf=>x4 b o ((other b (noRecord b o hb hnf)).trans hb) hnf
theorem Sky.held {Q:Unit->Shared->Prop}(hZ:Steady Z)(hfr:A.frames=some (env::outer))(hf:env.frame=some L)(x:L2.Sky base (env::outer) e Z L' s.heap)
  (hQ:∀ h',HeldZ base (env::outer) e Z L h'->s.heap.UpToSlots h'->Q () { s with heap:=h' }):wpAny M A (noteFrame (.ref e) env) Q E s:=by
 rcases x with ⟨hB,hn,hl,oe,vs,he,hz,hd,h1⟩ | fl | hh
 ·exact look_newZ hZ hfr hl hf he hB hn hd h1 hz hQ
 ·exact looks_onZ hZ hfr hf fl hQ
 ·by_cases hL:L'=L
  ·subst hL
   exact againZ hf hh.2.2.2 (hQ s.heap hh (Heap.UpToSlots.refl _))
  ·obtain⟨f1,f2,f3,f4⟩:=hh;refine adJ hZ hfr hf ?_ f1 f2 f3 f4 hQ
   simp[rawInt]
   intro h;exact hL (Int.ofNat.inj h)
end
theorem pY {B h h2:Heap}{C:Addr}(sb:Heap.SameBut C h h2):∀ {l:List Env},h.FunFrames B l->C∉frs l->h2.FunFrames (W.hideAll B [C]) l
 | [],_,_=>trivial
 | env::l,⟨hk,⟨L,o,hf,hn,ho,hd⟩,hr⟩,hC=>by
  have hL:L≠C:=λ z=>hC (by subst z;exact List.mem_filterMap.mpr ⟨env,List.mem_cons_self,hf⟩)
  refine⟨hk,⟨L,o,hf,?_,(sb.2 L hL).trans ho,hd⟩,pY sb hr λ z=>hC ?_⟩
  ·cases q:(W.hideAll B [C]).get? L with
   | none=>rfl
   | some o'=>rw[W.of_hideAll _ q]at hn;cases hn
  ·obtain⟨e,he,q⟩:=List.mem_filterMap.mp z
   exact List.mem_filterMap.mpr ⟨e,List.mem_cons_of_mem _ he,q⟩
theorem agE {B h h2:Heap}{C e L:Addr}{l:List Env}{Z:Obj->Prop}(x:HeldZ B l e Z L h)(sb:Heap.SameBut C h h2)(hC:C∉frs l){m:Str->Option Value}(hn:h.Ns C m):HeldZ (W.hideAll B [C]) l e Z L h2:=by
 obtain⟨st,hen,hl,oe,vs,T,oT,ts,he,hz,hd,h1,hnT,hTe,hT,hdT,h3⟩:=x
 obtain⟨oc,es,ep,hc,hcd,_⟩:=hn
 have nC:∀ b o xs,h.get? b=some o->o.data=.fields xs->b≠C:=λ b o xs q d z=>by
  subst z
  rw[hc]at q;cases q
  rw[hcd]at d;cases d
 have none_:∀ b,B.get? b=none->(W.hideAll B [C]).get? b=none:=λ b q=>by
  cases w:(W.hideAll B [C]).get? b with
  | none=>rfl
  | some o'=>rw[W.of_hideAll _ w]at q;cases q
 refine⟨λ b o q=>?_,none_ _ hen,pY sb hl hC,oe,vs,T,oT,ts,(sb.2 e (nC e oe vs he hd)).trans he,hz,hd,h1,none_ _ hnT,hTe,(sb.2 T (nC T oT ts hT hdT)).trans hT,hdT,h3⟩
 have hb:b≠C:=λ z=>by
  subst z
  rw[W.hideAll_none [b] (List.mem_cons_self)]at q;cases q
 exact(sb.2 b hb).trans (st b o (W.of_hideAll _ q))
theorem XE.out {X:Cx}{pins:List (Addr×Obj)}{σ:L2.St}{H3:Hp}{s3 s':Shared}{scope:Scope}{cl:List (Str×Addr)}{fp:List Addr}{W:WX}{u:Value}{acc:Value}{use:Option (Value->Sem Unit)}{Qf:Value->Shared->Prop}
  (I3:L2.Inv X pins σ H3 s3) (f3:∀ b∈fp,FpOk X pins H3 b/\b < s3.heap.objs.size) (hs:X.stack=X.env::X.outer) (hf:X.env.frame=some X.env.locals) (tk:Takes X W) (hW:∀ c d σ σ' H,W c d σ H->W c d σ' H)
  (x:XE (X.blk s3 H3 scope (compEnvC scope cl s3.heap.objs.size X.env) fp) W u s') :
  notedBy (model X.prog X.w) X.A (compEnvC scope cl s3.heap.objs.size X.env) (λ e s''=>postF X.xe X.env.frame (model X.prog X.w) X.A use Qf acc s3.heap.objs.size (.error e) s'') u s':=by
 obtain⟨a,B,sI,pinsZ,σ',H',cls,d,rfl,I',nb,up,sky,na,os,ag,w⟩:=x
 have J:L2.Inv X pins σ H' sI:=I3.call' (ch:=fp) I'.os I'.base I'.hok I'.bare λ b hb=>⟨(f3 b hb).1.2.2.2.1,(f3 b hb).1.2.1,(f3 b hb).1.2.2.2.2.1,(f3 b hb).1.2.2.2.2.2⟩
 have nC:H' s3.heap.objs.size=none:=I'.free
 obtain⟨m,hn,_⟩:=I'.loc
 have hn:sI.heap.Ns s3.heap.objs.size m:=hn
 have fC:=I3.fpOk (Nat.le_refl _) nC
 have hfrs:X.A.frames=some (X.env::X.outer):=by rw[I3.ok.frames,hs]
 have sky:Sky B X.stack a (Zc cls d) s3.heap.objs.size s'.heap:=sky
 have nst:s3.heap.objs.size∉frs X.stack:=λ z=>by
  rw[hs]at z;obtain⟨e,he,q⟩:=List.mem_filterMap.mp z;rcases List.mem_cons.mp he with rfl | he
  ·rw[hf]at q;exact fC.2.1 (Option.some.inj q).symm
  ·exact fC.2.2.1 (List.mem_filterMap.mpr ⟨e,he,q⟩)
 rw[hs]at sky;show wpAny _ _ (noteFrame (.ref a) (compEnvC scope cl s3.heap.objs.size X.env)) _ _ _;rw[tM (env:=X.env) (env':=compEnvC scope cl s3.heap.objs.size X.env) rfl];refine Sky.held Zc.steady hfrs hf sky λ h1 hh up1=>?_
 have hn1:h1.Ns s3.heap.objs.size m:=up1.ns (up.ns hn)
 have nst':s3.heap.objs.size∉frs (X.env::X.outer):=by rw[←hs];exact nst
 have go:∃ m,h1.Ns s3.heap.objs.size m/\∀ h',Heap.SameBut s3.heap.objs.size h1 h'->∀ cenv:Env,cenv.frame=X.env.frame->wpAny (model X.prog X.w) X.A (passOn "comprehension.variables-let-go" (.ref a) cenv:Sem Value) (λ _ _=>False) X.xe { s' with heap:=h' }:=by
  refine⟨m,hn1,λ h2 sb cenv hc=>?_⟩
  have hh2:=agE hh sb nst' hn1
  unfold PySem.passOn
  have tr:=hh2.2.2.2
  obtain⟨oe,vs,T,oT,ts,he,hz,hd,e1,_⟩:=tr;refine wpAny_bind (wpAny_field he hd e1 ?_);rw[if_neg (by simp)];rw[hc,hf];refine wpAny_bind (setFlight_onZ hh2 λ h3 hh3 up3=>wpAny_throw ?_);refine tk _ _ ⟨a,PySem.W.hideAll B [s3.heap.objs.size],{ sI with heap:=PySem.W.hideAll sI.heap [s3.heap.objs.size] },pins,σ,H',cls,d,rfl,?_,λ b o e hb=>?_,λ b o e hd=>?_,?_,na,os,ag,hW _ _ _ _ _ w⟩
  ·exact J.turned (t':=sI.toks) (λ b o hb e=>PySem.W.hideAll_get _ e (by simpa using hb)) fC.1 fC.2.1 fC.2.2.2.1 fC.2.2.2.2.1 fC.2.2.2.2.2
  ·have hbC:b≠s3.heap.objs.size:=λ z=>by
    rw[z]at e
    have e:(PySem.W.hideAll sI.heap [s3.heap.objs.size]).get? s3.heap.objs.size=some o:=e
    rw[PySem.W.hideAll_none [s3.heap.objs.size] List.mem_cons_self]at e;cases e
   exact PySem.W.hideAll_get _ (nb b o (PySem.W.of_hideAll _ e) hb) (by simpa using hbC)
  ·have hbC:b≠s3.heap.objs.size:=λ z=>by
    rw[z]at e
    have e:(PySem.W.hideAll sI.heap [s3.heap.objs.size]).get? s3.heap.objs.size=some o:=e
    rw[PySem.W.hideAll_none [s3.heap.objs.size] List.mem_cons_self]at e;cases e
   obtain⟨l1,q1⟩:=up b o (PySem.W.of_hideAll _ e) hd;obtain⟨l2,q2⟩:=up1 b _ q1 hd;obtain⟨l3,q3⟩:=up3 b _ ((sb.2 b hbC).trans q2) hd;exact⟨l3,q3⟩
  ·rw[hs];exact .inr (.inr hh3)
 cases use<;>exact go
end VS
set_option maxHeartbeats 2000000
namespace L2
open PySem PySem.Spec PyProof.Rows
section
variable {X:Cx}{W:WX}
abbrev Cx.blkR (X:Cx)(W:WX)(s:Shared)(H:Hp)(scope:Scope)(cenv:Env)(fp:List Addr):Cx:=(X.blk s H scope cenv fp).wish (XE (X.blk s H scope cenv fp) W)
theorem takes_blkR {s:Shared}{H:Hp}{scope:Scope}{cenv:Env}{fp:List Addr}:Takes (X.blkR W s H scope cenv fp) W:=λ u s' ⟨a,B,sI,pins,σ,H',cls,d,e,I,nb,up,sky,na,os,ag,w⟩ =>
 ⟨a,B,sI,pins,σ,H',cls,d,e,I.unwish,nb,up,sky,na,os,ag,w⟩
theorem lc_coreR {pins:List (Addr×Obj)}{s:Shared}{σ:St}{H:Hp}{Q:VK}{elt tg iter:Expr}{ifs:List Expr}{scope:Scope}{own:List (Str×Nat)}{pos pos':Pos}{wi:TI}{g:TG}{tt:TT}{te:TE}{use:Option (Value->Sem Unit)}{Qf:Value->Shared->Prop}
  (hst:X.stack=X.env::X.outer) (hfr:X.env.frame=some X.env.locals) (tk:Takes X W) (hW:∀ c d σ σ' H,W c d σ H->W c d σ' H)
  (hc:X.calm=true) (hN:X.N.Nodup) (I:Inv X pins σ H s) (hi:PI X tg iter wi) (ok:BlkOk X.N X.env.scope scope own)
  (hg:∀ (s:Shared) (H:Hp) (C:Addr) (cl:List (Str×Addr)) (fp:List Addr),PG (X.blk s H scope (compEnvC scope cl C X.env) fp) tg g) (ht:∀ (s:Shared) (H:Hp) (C:Addr) (cl:List (Str×Addr)) (fp:List Addr),PTs (X.blk s H scope (compEnvC scope cl C X.env) fp) ifs tt)
  (he:∀ (s:Shared) (H:Hp) (C:Addr) (cl:List (Str×Addr)) (fp:List Addr),PE (X.blkR W s H scope (compEnvC scope cl C X.env) fp) elt te) (hs:∀ x,foldedSetIterable iter X.env x=pure x)
  (h:tLc wi g tt te (own.map (·.2)) σ H Q)
  (hRR:∀ D C s' m H',Inv X pins σ H' s'->Q (.ref D) H'->s'.heap.Ns C m->FpOk X pins H' C->VS.postF X.xe X.env.frame (model X.prog X.w) X.A use Qf (.ref D) C (.ok .next) s') :
  wpAny (model X.prog X.w) X.A (comprehension (.ListComp elt [⟨tg,iter,ifs,0⟩] scope pos) scope X.env pos' (newList []) false (eval iter X.env) use) Qf X.xe s:=by
 have hfree:∀ y∈scope.names,y.2=.free->∃ c,X.env.cells.lookup y.1=some c:=λ y hy e=>(ok.free y hy e).elim (λ k=>I.ok.has _ (.inl k)) λ k=>I.ok.has _ (.inr k)
 refine VS.aab (use:=use) rfl hs (closure_ok hfree) ok.kind (λ y hy e=>by rw[ok.uniq y hy,e]) (thn (hi.run pins s σ H _ I h) λ xv s1 hx=>thn hx λ itv s2 h2=>?_);obtain⟨it,fp,tn,J,H2,e,I2,T,st2,f2,q⟩:=h2
 subst e
 refine wpAny_newObj_type (newEnv_comp ?_) (by show 0<=sizeLine;decide)
 generalize hD:s2.heap.objs.size=D
 have hDn:H2 D=none:=I2.hok.fresh (Nat.le_of_eq hD)
 obtain⟨W0,⟨m0,w0⟩,turn⟩:=q D hDn
 generalize hs3:({ s2 with heap:=s2.heap.push { cls:=.type "list",data:=.seq ([]:List Value).toArray } }:Shared)=s3
 have I3:Inv X pins σ (upd H2 D (.lst [])) s3:=by
  rw[←hs3];refine I2.laid (t':=s2.toks) (λ b o e=>Heap.get?_push_of_some _ e) (Nat.le_of_eq hD) ⟨Nat.zero_le _,[],0,.nil,?_⟩;rw[←hD];exact Heap.get?_push_size _ rfl
 have h3:s3.heap=s2.heap.push { cls:=.type "list",data:=.seq ([]:List Value).toArray }:=by rw[←hs3]
 have sz:∀ b∈fp,b < s2.heap.objs.size:=λ b hb=>let ⟨_,e,_⟩:=T.obj _ _ st2 b hb;Heap.lt_size e
 have f3:∀ b∈fp,FpOk X pins (upd H2 D (.lst [])) b/\b < s3.heap.objs.size:=λ b hb =>
  ⟨⟨by rw[upd_ne (by rw[←hD];exact Nat.ne_of_lt (sz b hb))];exact(f2 b hb).1,(f2 b hb).2⟩,by rw[h3,Heap.size_push];exact Nat.lt_succ_of_lt (sz b hb)⟩
 have st3:tn 0 s3.heap:=T.keep _ _ _ st2 λ b _ o e=>by rw[h3];exact Heap.get?_push_of_some _ e
 have I4:=block_start I3 ok hN f3
 have pg:=hg s3 (upd H2 D (.lst [])) s3.heap.objs.size (cellsFrom (s3.heap.objs.size+1) scope.names (cloFrom X.env.cells scope.names [])) fp
 have pt:=ht s3 (upd H2 D (.lst [])) s3.heap.objs.size (cellsFrom (s3.heap.objs.size+1) scope.names (cloFrom X.env.cells scope.names [])) fp
 have pe:=he s3 (upd H2 D (.lst [])) s3.heap.objs.size (cellsFrom (s3.heap.objs.size+1) scope.names (cloFrom X.env.cells scope.names [])) fp
 have out:∀ u s',XE (X.blk s3 (upd H2 D (.lst [])) scope (compEnvC scope (cellsFrom (s3.heap.objs.size+1) scope.names (cloFrom X.env.cells scope.names [])) s3.heap.objs.size X.env) fp) W u s'->notedBy (model X.prog X.w) X.A (compEnvC scope (cellsFrom (s3.heap.objs.size+1) scope.names (cloFrom X.env.cells scope.names [])) s3.heap.objs.size X.env) (λ e s''=>VS.postF X.xe X.env.frame (model X.prog X.w) X.A use Qf (.ref D) s3.heap.objs.size (.error e) s'') u s' :=
  λ u s' x=>VS.XE.out (acc:=.ref D) (use:=use) (Qf:=Qf) I3 f3 hst hfr tk hW x
 show codeAny _ _ (.compStart (.ListComp elt [⟨tg,iter,ifs,0⟩] scope pos) 0 (.ref it) (.ref D) (compEnvC scope (cellsFrom (s3.heap.objs.size+1) scope.names (cloFrom X.env.cells scope.names [])) s3.heap.objs.size X.env)) (VS.postF X.xe X.env.frame (model X.prog X.w) X.A use Qf (.ref D) s3.heap.objs.size) { s3 with heap:=pushCells (s3.heap.push { cls:=.type "dict",data:=.dict #[] }) scope.names }
 have nfp:∀ b∈fp,(upd H2 D (.lst [])) b=none:=λ b hb=>(f3 b hb).1.1
 generalize hce:compEnvC scope (cellsFrom (s3.heap.objs.size+1) scope.names (cloFrom X.env.cells scope.names [])) s3.heap.objs.size X.env=ce at I4 pg pt pe out ⊢
 have cL:ce.locals=s3.heap.objs.size:=by subst hce;rfl
 generalize hH3:upd H2 D (.lst [])=H3 at I3 I4 pg pt pe w0 nfp f3 out
 generalize hs4:({ s3 with heap:=pushCells (s3.heap.push { cls:=.type "dict",data:=.dict #[] }) scope.names }:Shared)=s4 at I4 ⊢
 have st4:tn 0 s4.heap:=T.keep _ _ _ st3 λ b _ o e=>by rw[←hs4];exact pushCells_keeps _ _ _ _ (Heap.get?_push_of_some _ e)
 have stat:∀ {σ':St} {H':Hp} {s':Shared},Inv (X.blk s3 H3 scope ce fp) [] σ' H' s'->(∀ b∈fp,H' b=none)->∀ b∈fp,FpOk (X.blk s3 H3 scope ce fp) [] H' b:=λ {σ' H' s'} I' hn b hb =>
  ⟨hn b hb,(I'.ok.exf b hb).1,I'.ok.exfs b hb,.inl hb,λ x c e=>(I'.ok.exf b hb).2 x c e,λ p hp=>absurd (show p∈([]:List (Addr×Obj))++[] from hp) (by simp)⟩
 have loop:codeAny (model X.prog X.w) X.A (.compLoop (.ListComp elt [⟨tg,iter,ifs,0⟩] scope pos) 0 (.ref it) (.ref D) ce) (VS.postF X.xe X.env.frame (model X.prog X.w) X.A use Qf (.ref D) s3.heap.objs.size) s4:=by
  refine compLoop_any (λ n s'=>∃ i H',Inv (X.blk s3 H3 scope ce fp) [] (wipe σ (own.map (·.2))) H' s'/\tn i s'.heap/\(∀ b∈fp,H' b=none)/\W0 i n H') ?_ m0 ⟨0,H3,I4,st4,nfp,w0⟩;rintro n s5 ⟨i,H5,I5,st5,n5,w5⟩;rcases turn i n H5 w5 with ⟨stop,qq⟩ | ⟨go,Nx,hNx,step⟩
  ·refine thnF (T.done (X.blk s3 H3 scope ce fp) rfl rfl rfl hc i [] s5 _ H5 (λ _ _=>False) I5 (stat I5 n5) st5 stop) λ r s6 ⟨hr,I6⟩=>?_
   subst hr
   have I7:Inv X pins σ H5 s6:=I3.call' (ch:=fp) I6.os I6.base I6.hok I6.bare λ b hb=>⟨(f3 b hb).1.2.2.2.1,(f3 b hb).1.2.1,(f3 b hb).1.2.2.2.2.1,(f3 b hb).1.2.2.2.2.2⟩
   have nC:H5 s3.heap.objs.size=none:=cL ▸ (show H5 ce.locals=none from I6.free)
   obtain⟨m,hn,_⟩:=I6.loc
   have hn:s6.heap.Ns ce.locals m:=hn
   rw[cL]at hn;exact hRR D s3.heap.objs.size s6 m H5 I7 qq hn (I3.fpOk (Nat.le_refl _) nC)
  ·refine thnF (T.item (X.blk s3 H3 scope ce fp) rfl rfl rfl hc i [] s5 _ H5 (λ _ _=>False) I5 (stat I5 n5) st5 go) λ r s6 ⟨u,hr,h6⟩=>?_
   subst hr
   refine thnF h6 λ _ s7 ⟨x,H7,I7,r7,y7,st7,n7⟩=>?_
   have I7':=I7.pinned (stat I7 n7) (T.obj _ _ st7)
   refine thnF (pg.run _ s7 _ H7 x u _ I7' r7 (step x H7 y7)) λ _ s8 ⟨σ8,H8,I8,hw8,q8⟩=>?_;refine thnF (pt.run _ s8 σ8 H8 _ I8 q8) λ b s9 ⟨H9,I9,q9⟩=>?_
   have fin:∀ {s':Shared} {H':Hp},Inv (X.blk s3 H3 scope ce fp) ([]++pinsAt fp s7.heap) σ8 H' s'->Nx H'->∃ m,m < n/\∃ i H',Inv (X.blk s3 H3 scope ce fp) [] (wipe σ (own.map (·.2))) H' s'/\tn i s'.heap/\(∀ b∈fp,H' b=none)/\W0 i m H':=λ {s' H'} I' nx=>by
    obtain⟨m',hm,w'⟩:=hNx H' nx
    have pin':∀ b∈fp,∀ o,s7.heap.get? b=some o->s'.heap.get? b=some o/\H' b=none:=λ b hb o e =>
     let z:=I'.pin (b,o) (List.mem_append_right _ (List.mem_append_right _ (mem_pinsAt hb e)))
     ⟨z.1,z.2.1⟩
    have hl:(wipe σ (own.map (·.2))).length=σ8.length:=by rw[←hw8,wipe_length]
    refine⟨m',hm,i+1,H',(I'.unpinned (pins:=[])).weak hl (λ j v e=>?_),T.keep _ _ _ st7 λ b hb o e=>(pin' b hb o e).1,λ b hb=>?_,w'⟩
    ·rw[←hw8]at e;exact(wipe_some e).1
    ·obtain⟨o,e,_⟩:=T.obj _ _ st7 b hb;exact(pin' b hb o e).2
   cases b with
   | false =>
    simp only[Bool.false_eq_true,if_false]at q9 ⊢
    exact fin I9 q9
   | true =>
    simp only[if_true]at q9 ⊢
    refine wpAny_mono (pe.run _ s9 σ8 H9 _ (I9.wish _) q9) (λ z s10 hz=>?_) λ u s10 x=>out u s10 x;obtain⟨yv,H10,I10,r10,acc,hD10,hz10,nx⟩:=hz;exact app_ok (X:=X.blk s3 H3 scope ce fp) I10.unwish hD10 hz10 r10 λ s11 I11=>fin I11 nx
 exact codeAny_compStart_list loop (T.self X.A 0 _ _ _ st4 loop)
end
end L2
namespace VS
open PySem PySem.Spec PyProof PyProof.Rows L2
def lcGoR (vs:List Nat)(f:D->LS->Option LS)(gt:LS->R Bool)(ge:LS->R D):List D->List D->LS->R S
 | [],acc,L=>.ok (.ol acc) L
 | d::ds,acc,L=>match f d L with
  | none=>.stuck
  | some L1=>match gt L1 with
   | .ok b L2=>if b=true then(match ge L2 with
     | .ok y L3=>if acc.length < sizeLine then lcGoR vs f gt ge ds (acc++[y]) (wipeL L3 vs) else .stuck
     | .err k L3=>.err k (wipeL L3 vs)
     | .stuck=>.stuck) else lcGoR vs f gt ge ds acc (wipeL L2 vs)
   | _=>.stuck
def gLcR (vs:List Nat)(gi:LS->R (List D))(f:D->LS->Option LS)(gt:LS->R Bool)(ge:LS->R D):LS->R S:=λ L=>(gi L).bind λ ds L1=>lcGoR vs f gt ge ds [] (wipeL L1 vs)
abbrev Ct.blkR (c:Ct)(scope:Scope)(b:Bk):Ct:={ c with X:=c.X.blkR c.W b.s b.H scope (compEnvC scope b.cl b.C c.X.env) b.fp }
section
variable {c:Ct}{n n1 n2 n3:Bool}{scope:Scope}
theorem yt {b:Bk}:Takes (c.blkR scope b).X (c.blkR scope b).W:=takes_blkR
theorem ajC {e:Expr}{g:LS->R D}(h:∀ b,JD (c.blkR scope b) n e g):∃ t,(∀ b,PE (c.blkR scope b).X e t)/\Jdg c n g BD t:=by
 refine⟨λ σ H Q=>∀ b,Classical.choose (h b) σ H Q,λ b=>⟨λ pins s σ H Q I hw=>(Classical.choose_spec (h b)).1.run pins s σ H Q I (hw b)⟩,?_⟩;intro G F ow σ H L Rr
 have q:=λ b=>(Classical.choose_spec (h b)).2 G F ow σ H L Rr
 cases hr:g L with
 | stuck=>trivial
 | err k L' =>
  intro hw Q b
  have:=q b
  rw[hr]at this;exact this hw Q
 | ok a L' =>
  intro Q hq b
  have:=q b
  rw[hr]at this;exact this Q hq
theorem ajD {gi:LS->R (List D)}{f:D->LS->Option LS}{gt:LS->R Bool}{ge:LS->R D}{wi:TI}{g:TG}{tt:TT}{te:TE}{vs ws:List Nat}(hW:∀ k d σ σ' H,c.W k d σ H->c.W k d σ' H)(hi:Jdg c n1 gi (BI c.B) wi)
  (hg:∀ G F ow σ H L d v L',c.Rl G F ow σ H L->Dq c.X.K F v d->f d L=some L'->∀ Q:L2.St->Hp->Prop,(∀ σ',OutOf ws σ σ'->c.Rl G F ow σ' H L'->Q σ' H)->g v σ H Q) (hws:∀ k∈ws,k∈vs) (hp:∀ k∈vs,c.free k)
  (ht:Jdg c.low n2 gt BB tt) (he:Jdg c n3 ge BD te):Jdg c (n1&&(n2&&n3)) (gLcR vs gi f gt ge) (BE c.ca) (tLc wi g tt te vs):=by
 have hpn:∀ (k:Nat) (v:V),(pinOf c.pb c.v0)[k]?=some (some v)->k∉vs:=λ k v h hk=>hp k hk (jZ h).1
 intro G F0 ow σ H0 L0 Rr
 refine(hi G F0 ow σ H0 L0 Rr).bind (t2:=λ J H1 (Q:VK)=>∀ D,H1 D=none->∃ W:Nat->Nat->Hp->Prop,(∃ m,W 0 m (upd H1 D (.lst [])))/\∀ i m H,W i m H ->
  (J.stop i H/\Q (V.ref D) H)∨(J.go i H/\∃ Nx:Hp->Prop,(∀ H',Nx H'->∃ m',m' < m/\W (i+1) m' H')/\∀ x H',J.yld i H x H'->g x (L2.wipe σ vs) H' λ σ2 H2=>L2.wipe σ2 vs=L2.wipe σ vs/\tt σ2 H2 λ b H3 =>
   if b=true then te σ2 H3 λ y H4=>∃ acc,H4 D=some (.lst acc)/\acc.length < sizeLine/\Nx (upd H4 D (.lst (acc++[y]))) else Nx H3)) λ ds L1 J H1 F1 ow1 _ e1 s1 R1 b1=>?_
 have key:∀ r,lcGoR vs f gt ge ds [] (wipeL L1 vs)=r->r≠.stuck->∀ Q:VK,(∀ s Lf,r=.ok s Lf->∀ v H' F' ow',Same F1 F'->((n2&&n3)=true->Same H1 H')->c.Rl G F' ow' σ H' Lf->BE c.ca c.X.K F' H' ow' s v->Q v H') ->
   (∀ k Lf,r=.err k Lf->∀ H' F' ow',Same F1 F'->c.Rl G F' ow' σ H' Lf->c.W (.ref (c.ca k)) none σ H')->∀ D,H1 D=none->∃ W:Nat->Nat->Hp->Prop,(∃ m,W 0 m (upd H1 D (.lst [])))/\∀ i m H,W i m H ->
  (J.stop i H/\Q (V.ref D) H)∨(J.go i H/\∃ Nx:Hp->Prop,(∀ H',Nx H'->∃ m',m' < m/\W (i+1) m' H')/\∀ x H',J.yld i H x H'->g x (L2.wipe σ vs) H' λ σ2 H2=>L2.wipe σ2 vs=L2.wipe σ vs/\tt σ2 H2 λ b H3 =>
   if b=true then te σ2 H3 λ y H4=>∃ acc,H4 D=some (.lst acc)/\acc.length < sizeLine/\Nx (upd H4 D (.lst (acc++[y]))) else Nx H3):=by
  intro r hr hns Q q qe D hD
  have gD:G D=none:=R1.exG.free hD
  have hB:c.B D=none:=R1.exB.free hD
  refine⟨λ i m H=>m=ds.length - i/\i<=ds.length/\∃ F' ow' L' acc da,Same F1 F'/\((n2&&n3)=true->Same H1 H)/\c.Rl (upd G D (.lst acc)) F' ow' (L2.wipe σ vs) H L'/\DqA c.X.K F' acc da/\lcGoR vs f gt ge (ds.drop i) da L'=r/\∀ (k:Nat) (s':S),L'[k]?=some (some s')->k∉vs,
   ⟨ds.length,rfl,Nat.zero_le _,F1,ow1,wipeL L1 vs,[],[],Same.refl F1,λ _=>dw hD,(R1.wipe hpn).aside hD,.nil,hr,λ k s' h=>(dJ h).2⟩,?_⟩
  rintro i m H ⟨rfl,hi',F2,ow2,LB,acc,da,e2,s2,R2,hacc,hgo,hno⟩;obtain⟨k1,k2⟩:=(ItOk.up e2 b1) i H R2.exF R2.exB
  by_cases hlt:i < ds.length
  ·obtain⟨k3,k4⟩:=k2 _ (List.getElem?_eq_getElem hlt);rw[List.drop_eq_getElem_cons hlt]at hgo
   refine .inr ⟨k3,λ H'=>∃ F' ow' L' acc da,Same F1 F'/\((n2&&n3)=true->Same H1 H')/\c.Rl (upd G D (.lst acc)) F' ow' (L2.wipe σ vs) H' L'/\DqA c.X.K F' acc da/\lcGoR vs f gt ge (ds.drop (i+1)) da L'=r/\∀ (k:Nat) (s':S),L'[k]?=some (some s')->k∉vs,
    λ H' w=>⟨ds.length - (i+1),by omega,rfl,hlt,w⟩,λ x H' y=>?_⟩
   have step:∀ {F3 H3:Hp},Same F2 F3->Same H H3->c.Rl (upd G D (.lst acc)) F3 ow2 (L2.wipe σ vs) H3 LB->Dq c.X.K F3 x ds[i]->g x (L2.wipe σ vs) H3 λ σ2 H2=>L2.wipe σ2 vs=L2.wipe σ vs/\tt σ2 H2 λ b H3 =>
     if b=true then te σ2 H3 λ y H4=>∃ acc,H4 D=some (.lst acc)/\acc.length < sizeLine/\∃ F' ow' L' acc' da,Same F1 F'/\((n2&&n3)=true->Same H1 (upd H4 D (.lst (acc++[y]))))/\c.Rl (upd G D (.lst acc')) F' ow' (L2.wipe σ vs) (upd H4 D (.lst (acc++[y]))) L'/\DqA c.X.K F' acc' da/\lcGoR vs f gt ge (ds.drop (i+1)) da L'=r/\∀ (k:Nat) (s':S),L'[k]?=some (some s')->k∉vs
     else ∃ F' ow' L' acc da,Same F1 F'/\((n2&&n3)=true->Same H1 H3)/\c.Rl (upd G D (.lst acc)) F' ow' (L2.wipe σ vs) H3 L'/\DqA c.X.K F' acc da/\lcGoR vs f gt ge (ds.drop (i+1)) da L'=r/\∀ (k:Nat) (s':S),L'[k]?=some (some s')->k∉vs:=λ {F3 H3} e3 s3 R3 hx=>by
    unfold lcGoR at hgo
    cases hf:f ds[i] LB with
    | none=>rw[hf]at hgo;exact absurd hgo.symm hns
    | some L3 =>
     rw[hf]at hgo;refine hg _ F3 ow2 _ H3 LB _ x L3 R3 hx hf _ λ σ2 o2 R4=>⟨nj o2 hws,?_⟩
     have wp:=nj o2 hws
     have hgo:(match gt L3 with
      | .ok b L2=>if b=true then(match ge L2 with
        | .ok y L3=>if da.length < sizeLine then lcGoR vs f gt ge (ds.drop (i+1)) (da++[y]) (wipeL L3 vs) else .stuck
        | .err k L3=>.err k (wipeL L3 vs)
        | .stuck=>.stuck) else lcGoR vs f gt ge (ds.drop (i+1)) da (wipeL L2 vs)
      | _=>.stuck)=r:=hgo
     have pt:=ht _ F3 ow2 σ2 H3 L3 R4
     cases hgt:gt L3 with
     | stuck=>rw[hgt]at hgo;exact absurd hgo.symm hns
     | err k L5=>rw[hgt]at hgo;exact absurd hgo.symm hns
     | ok b L5 =>
      rw[hgt]at hgo pt;refine pt _ λ b' H5 F5 ow5 e5 s5 R5 q5=>?_
      have q5:b'=b:=q5
      subst q5
      cases b' with
      | false =>
       refine⟨F5,ow5,wipeL L5 vs,acc,da,(e2.trans e3).trans e5,λ h=>((s2 h).trans s3).trans (s5 (and_of h).1),?_,(hacc.up e3).up e5,hgo,λ k s' h=>(dJ h).2⟩
       have:=R5.wipe (vs:=vs) hpn
       rw[wp]at this;exact this
      | true =>
       have hgo:(match ge L5 with
        | .ok y L3=>if da.length < sizeLine then lcGoR vs f gt ge (ds.drop (i+1)) (da++[y]) (wipeL L3 vs) else .stuck
        | .err k L3=>.err k (wipeL L3 vs)
        | .stuck=>.stuck)=r:=hgo
       have pe:=he _ F5 ow5 σ2 H5 L5 R5
       cases hge:ge L5 with
       | stuck=>rw[hge]at hgo;exact absurd hgo.symm hns
       | err k L6 =>
        rw[hge]at hgo pe;refine pe (λ H6 F6 ow6 e6 R6=>hW _ _ σ _ _ (qe k (wipeL L6 vs) hgo.symm H6 F6 (onAt ow6 D [0]) (((e2.trans e3).trans e5).trans e6) ?_)) _
        have R7:=R6.wipe (vs:=vs) hpn
        rw[wp]at R7
        exact R7.asideOut (σ':=σ) gD hB (wipe_length σ vs).symm (λ k s' h=>(eV (dJ h).2).symm) λ k v h=>by
         rw[←eV (σ:=σ) (hpn k v h)];exact R7.pin k v h
       | ok y L6 =>
        rw[hge]at hgo pe;refine pe _ λ v H6 F6 ow6 e6 s6 R6 q6=>?_
        have hgo:(if da.length < sizeLine then lcGoR vs f gt ge (ds.drop (i+1)) (da++[y]) (wipeL L6 vs) else .stuck)=r:=hgo
        by_cases hz:da.length < sizeLine
        ·rw[if_pos hz]at hgo
         have hH:H6 D=some (.lst acc):=R6.exG D _ upd_same
         have hacc6:=(((hacc.up e3).up e5).up e6)
         refine⟨acc,hH,by rw[hacc.len];exact hz,F6,ow6,wipeL L6 vs,acc++[v],da++[y],((e2.trans e3).trans e5).trans e6,λ h=>?_,?_,hacc6.append (.one q6),hgo,λ k s' h=>(dJ h).2⟩
         ·have:=(((s2 h).trans s3).trans (s5 (and_of h).1)).trans (s6 (and_of h).2)
          intro a u ha;rw[upd_ne (ne_of_none ha hD)];exact this a u ha
         ·have:=(R6.wipe (vs:=vs) hpn).asideSet (o':=.lst (acc++[v])) hB
          rw[wp]at this;exact this
        ·rw[if_neg hz]at hgo;exact absurd hgo.symm hns
   rcases k4 x H' y with ⟨rfl,hx⟩ | ⟨p,ts,es,he',rfl,hp',rfl,hq⟩
   ·exact step (Same.refl F2) (Same.refl _) R2 hx
   ·obtain⟨w1,w2,w3⟩:=R2.newF (o:=.tup ts) hp';rw[he']at step;exact step w1 w2 w3 (.tup upd_same (hq.up w1))
  ·have hl:ds.length<=i:=Nat.le_of_not_lt hlt
   rw[List.drop_eq_nil_of_le hl]at hgo;refine .inl ⟨k1 hl,q _ _ hgo.symm _ H F2 _ e2 s2 (R2.asideOut (σ':=σ) gD hB (wipe_length σ vs).symm (λ k s' h=>(eV (hno k s' h)).symm) λ k v h=>?_) (.ol (R2.exG D _ upd_same) (jK ..) hacc)⟩;rw[←eV (σ:=σ) (hpn k v h)];exact R2.pin k v h
 cases hr:lcGoR vs f gt ge ds [] (wipeL L1 vs) with
 | stuck=>trivial
 | err k Lf=>exact λ hw Q=>key _ hr (by intro z;cases z) Q (λ _ _ z=>by cases z) (λ _ _ z=>by cases z;exact hw)
 | ok s Lf=>exact λ Q q=>key _ hr (by intro z;cases z) Q (λ _ _ z=>by cases z;exact q) (λ _ _ z=>by cases z)
variable {elt tg iter:Expr}{ifs:List Expr}{own:List (Str×Nat)}{pos spos:Pos}{gi:LS->R (List D)}{f:D->LS->Option LS}{gt:LS->R Bool}{ge:LS->R D}{ws:List Nat}
end
end VS
set_option maxHeartbeats 2000000
namespace L2
open PySem PySem.Spec PyProof.Rows
theorem ps_setLcR {X:Cx}{W:WX}{i:Nat}{y:Str}{py:Pos}{elt tg iter:Expr}{ifs:List Expr}{scope:Scope}{own:List (Str×Nat)}{pos spos:Pos}{wi:TI}{g:TG}{tt:TT}{te:TE}
  (hst:X.stack=X.env::X.outer) (hfr:X.env.frame=some X.env.locals) (tk:Takes X W) (hW:∀ c d σ σ' H,W c d σ H->W c d σ' H) (hc:X.calm=true) (hN:X.N.Nodup) (hy:X.N[i]?=some y) (hyl:X.env.scope.names.lookup y=some .local)
  (hsw:swapsWith (.ListComp elt [⟨tg,iter,ifs,0⟩] scope pos) (some (.Name y py)) spos.line X.env=pure true) (hi:PI X tg iter wi) (ok:BlkOk X.N X.env.scope scope own)
  (hg:∀ (s:Shared) (H:Hp) (C:Addr) (cl:List (Str×Addr)) (fp:List Addr),PG (X.blk s H scope (compEnvC scope cl C X.env) fp) tg g) (ht:∀ (s:Shared) (H:Hp) (C:Addr) (cl:List (Str×Addr)) (fp:List Addr),PTs (X.blk s H scope (compEnvC scope cl C X.env) fp) ifs tt)
  (he:∀ (s:Shared) (H:Hp) (C:Addr) (cl:List (Str×Addr)) (fp:List Addr),PE (X.blkR W s H scope (compEnvC scope cl C X.env) fp) elt te) (hs:∀ x,foldedSetIterable iter X.env x=pure x:=by intro _;rfl) :
  PS X (.Assign [.Name y py] (.ListComp elt [⟨tg,iter,ifs,0⟩] scope pos) spos) (tAsg (tLc wi g tt te (own.map (·.2))) (gName i)):=by
 refine⟨λ pins s σ H D I h=>?_⟩;rw[exec_Assign_Name_used _ _ _ _ hsw];refine wpAny_bind (wpAny_standAt (wpAny_bind ?_));show wpAny _ X.A (do let _ ←comprehension (.ListComp elt [⟨tg,iter,ifs,0⟩] scope pos) scope X.env (firstIterPos [⟨tg,iter,ifs,0⟩] pos) (newList []) false (eval iter X.env) (some (assign (.Name y py) X.env))) _ _ s
 have h:tLc wi g tt te (own.map (·.2)) σ H (λ x H1=>gName i x σ H1 D.nx):=h
 refine wpAny_bind (thn (lc_coreR (Qf:=λ _ s'=>SP X pins D .next s') hst hfr tk hW hc hN I hi ok hg ht he hs h λ L C s' m H' I' q hn f=>?_) λ _ s' hq=>wpAny_pure (wpAny_pure hq));show wpAny _ _ (assign (.Name y py) X.env (.ref L)) _ _ _;refine wpAny_assign_Name (store_ok2 (v:=V.ref L) I' hN hy (.inl hyl) rfl (λ s2 I2 ⟨a,sb,ha⟩=>?_) (.inr hyl));obtain⟨f0,f1,f2,f3,f4,f5⟩:=f
 have haC:C≠a:=ha.elim (λ z=>by rw[z];exact f1) λ z e=>f4 y a z e.symm
 exact⟨m,hn.sameBut sb haC,λ h3 sb3=>⟨_,H',I2.turned (t':=s2.toks) (λ b o hb e=>(sb3.2 b hb).trans e) f0 f1 f3 f4 f5,q⟩⟩
end L2
namespace VS
open PySem PySem.Spec PyProof PyProof.Rows L2
section
variable {c:Ct}{n n1 n2 n3:Bool}{scope:Scope}{elt tg iter:Expr}{ifs:List Expr}{own:List (Str×Nat)}{pos spos:Pos}{gi:LS->R (List D)}{f:D->LS->Option LS}{gt:LS->R Bool}{ge:LS->R D}{ws:List Nat}
theorem yu {i:Nat}{y:Str}{py:Pos}(hst:c.X.stack=c.X.env::c.X.outer)(hef:c.X.env.frame=some c.X.env.locals)(tk:Takes c.X c.W)(hW:∀ k d σ σ' H,c.W k d σ H->c.W k d σ' H)
  (hc:c.X.calm=true) (hN:c.X.N.Nodup) (hy:c.X.N[i]?=some y) (hyl:c.X.env.scope.names.lookup y=some .local) (hfr:c.free i)
  (hsw:swapsWith (.ListComp elt [⟨tg,iter,ifs,0⟩] scope pos) (some (.Name y py)) spos.line c.X.env=pure true) (hi:JI c n1 tg iter gi) (ok:BlkOk c.X.N c.X.env.scope scope own) (hg:∀ b,JG (c.blk scope b) tg ws f) (hws:∀ k∈ws,k∈own.map (·.2)) (hp:∀ k∈own.map (·.2),c.free k)
  (ht:∀ b,JTs (c.blk scope b) n2 ifs gt) (he:∀ b,JD (c.blkR scope b) n3 elt ge) (hs:∀ x,foldedSetIterable iter c.X.env x=pure x:=by intro _;rfl):JS c (.Assign [.Name y py] (.ListComp elt [⟨tg,iter,ifs,0⟩] scope pos) spos) (gAsg i (gLcR (own.map (·.2)) gi f gt ge)):=by
 obtain⟨wi,p1,q1⟩:=hi;obtain⟨tg',p2,q2⟩:=ahH hg;obtain⟨tt,p3,q3⟩:=ahG ht;obtain⟨te,p4,q4⟩:=ajC he;exact⟨_,ps_setLcR hst hef tk hW hc hN hy hyl hsw p1 ok (λ s H C cl fp=>p2 ⟨s,H,C,cl,fp⟩) (λ s H C cl fp=>p3 ⟨s,H,C,cl,fp⟩) (λ s H C cl fp=>p4 ⟨s,H,C,cl,fp⟩) hs,aaQ hfr (ajD hW q1 q2 hws hp q3 q4)⟩
end
end VS
namespace VS
open PySem PySem.Spec PyProof.Rows L2
section
variable {c:Ct}{n:Bool}{e:Expr}{i C:Nat}
end
section
variable {c:Ct}{e0:Expr}{i:Nat}{p pos apos:Pos}
end
section
variable {c:Ct}{iter test:Expr}{i j:Nat}{x:Str}{pn p3 apos cpos ppos ipos pos:Pos}
end
def adK:Option S->Option S
 | some (.ot ss)=>(s1Ds ss).map λ ds=>.d (.tuple ds)
 | o=>viewS o
def nu (L:LS):LS:=L.map adK
section
variable {c:Ct}{G F H:Hp}{ow:Addr->Option Path}{σ:L2.St}{L:LS}
theorem Rl.view3 (Rr:c.Rl G F ow σ H L):c.Rl (vwG (vwF c.B F H ow) H) (vwF c.B F H ow) (λ _=>none) σ H (nu L):=by
 have eF:Same F (vwF c.B F H ow):=λ a o h=>aa2 a o (BF.inF Rr.exF Rr.exB a o h)
 have r0:=Rr.view
 refine⟨r0.exF,r0.exG,r0.dF,r0.dG,by unfold nu;rw[List.length_map];exact Rr.len,λ i s h=>?_,Rr.pin,r0.exB,r0.dB⟩;unfold nu at h;rw[List.getElem?_map]at h;obtain⟨o,h1,h2⟩:=Option.map_eq_some_iff.mp h
 have go:viewS o=some s->∃ v,σ[i]?=some (some v)/\RT c.X.K c.ca c.B (vwF c.B F H ow) H (λ _=>none) [i+1] s v:=λ z=>r0.sl i s (by
  unfold viewL;rw[List.getElem?_map,h1]
  exact congrArg some z)
 cases o with
 | none=>exact go h2
 | some s0 =>
 cases s0 with
 | ot ss =>
  obtain⟨ds,hd,e⟩:=Option.map_eq_some_iff.mp (show(s1Ds ss).map _=some s from h2)
  subst e
  obtain⟨v,hv,rs⟩:=Rr.sl i _ h1;refine⟨v,hv,?_⟩
  cases rs with
  | ot a b=>exact RT.of (.d (.tup (eF _ _ a) (agB eF (λ a q h=>ahO Rr h) b hd)))
 | _=>exact go h2
end
def vh (g:LS->R D):LS->R D:=λ L=>match g (nu L) with
 | .ok d _=>if scal d=true then .ok d L else .stuck
 | .err e _=>.err e L
 | .stuck=>.stuck
section
variable {c:Ct}{n:Bool}{a:Expr}{ga:LS->R D}
theorem agF (h:JD c n a ga):JD c true a (vh ga):=by
 obtain⟨t,ht,hg⟩:=h;refine⟨t,ht,λ G F ow σ H L Rr=>?_⟩
 have key:=hg _ _ _ σ H _ Rr.view3
 unfold vh
 cases hr:ga (nu L) with
 | stuck=>trivial
 | err e L1 =>
  rw[hr]at key;exact λ hw Q=>key (λ H' F' ow' e' r=>hw H' F ow (Same.refl F) (Rr.more (iU Rr e' r))) Q
 | ok d L1 =>
  rw[hr]at key;refine Post.guard λ hs=>?_;intro Q q;refine key Q λ v H' F' ow' e' _ r b=>?_
  have s:=iU Rr e' r
  exact q v H' F ow (Same.refl F) (λ _=>s) (Rr.more s) (wz hs b)
end
section
variable {c:Ct}
end
section
variable {c:Ct}{n:Bool}
end
section
variable {c:Ct}{a b e0:Expr}{gb:LS->R D}{pos:Pos}{i:Nat}
end
def catSQ:D->S->LS->R S
 | .list ds,.os ss,L=>if ds.length+ss.length<=sizeLine then .ok (.os (ds.map .d++ss)) L else .stuck
 | _,_,_=>.stuck
def gAddS (ga:LS->R D)(gb:LS->R S):LS->R S:=λ L=>(ga L).bind λ d L1=>(gb L1).bind λ s L2=>catSQ d s L2
def shP (m:Nat):Path->Option Path
 | [0]=>none
 | 0::k::q=>some (0::(m+k)::q)
 | p=>some p
section
variable {c:Ct}{n n2:Bool}{a b:Expr}{ga:LS->R D}{gb:LS->R S}{pos:Pos}
theorem ajE (ha:JD c n a ga)(hb:JE c n2 b gb):JE c false (.BinOp a .Add b pos) (gAddS ga gb):=by
 obtain⟨ta,p1,q1⟩:=ha;obtain⟨tb,p2,q2⟩:=hb;refine⟨_,pe_op op_cat p1 p2,λ G F ow σ H L Rr=>?_⟩
 have key:=(q1 G F ow σ H L Rr).bind (n2:=false) (k:=λ d L1=>(gb L1).bind λ s L2=>catSQ d s L2) (B2:=BE c.ca c.X.K) (t2:=λ v H1 Q=>tb σ H1 λ u H2=>rCat v u H2 Q)
  λ d L1 v H1 F1 ow1 _ _ _ R1 b1=>by
   have key2:=(q2 G F1 ow1 σ H1 L1 R1).bind (n2:=false) (k:=λ s L2=>catSQ d s L2) (B2:=BE c.ca c.X.K) (t2:=λ u H2 Q=>rCat v u H2 Q)
    λ s L2 u H2 F2 ow2 _ e2 _ R2 b2=>by
     cases d with
     | list ds =>
      cases s with
      | os ss =>
       cases b1 with
       | @lst l xs _ h1 h2 =>
       have b0:RS c.X.K c.ca F2 H2 ow2 [0] (.os ss) u:=b2
       cases b0 with
       | @os _ l2 ys _ g1 g2 g3 =>
       have hx:xs.length=ds.length:=h2.len
       have hy:ss.length=ys.length:=RI.len g3
       refine Post.guard λ hz=>?_;intro Q q;refine⟨l,l2,xs,ys,rfl,rfl,R2.exF _ _ (e2 _ _ h1),g1,by rw[hx,←hy];exact hz,λ l3 h3=>?_⟩;obtain⟨_,R3⟩:=(R2.rown3 (shP xs.length) (λ i q=>rfl)).new (l:=l3) (o:=.lst (xs++ys)) (p:=[0]) h3;refine q _ _ F2 _ (Same.refl F2) (λ z=>nomatch z) R3 (.os upd_same (jK ..) (RI.ofAt (by rw[List.length_append,List.length_append,List.length_map,hx,hy]) λ k s hk=>?_))
       by_cases hlt:k < xs.length
       ·rw[List.getElem?_append_left (by rw[List.length_map];omega),List.getElem?_map]at hk;obtain⟨d,hd,rfl⟩:=Option.map_eq_some_iff.mp hk;obtain⟨v,hv,hq⟩:=(h2.up e2).get hd;exact⟨v,by rw[List.getElem?_append_left hlt];exact hv,.d hq⟩
       ·rw[List.getElem?_append_right (by rw[List.length_map];omega),List.length_map,←hx]at hk
        have hkl:k - xs.length < ys.length:=by
         rw[←hy];exact(List.getElem?_eq_some_iff.mp hk).1
        have hyk:ys[k - xs.length]?=some ys[k - xs.length]:=List.getElem?_eq_getElem hkl
        obtain⟨s',hs1,hs2⟩:=RI.get g3 hyk;rw[hk]at hs1
        cases hs1
        refine⟨_,by rw[List.getElem?_append_right (by omega)];exact hyk,hs2.go (Same.refl F2) λ a w e=>?_⟩
        have e:ow2 a=some (0::(0+(k - xs.length))::w):=e
        have ha:a≠l3:=jC (R2.dF a _ e).2.2.1 h3
        refine⟨upd_ne ha,?_⟩;rw[iH ha];show(ow2 a).bind (shP xs.length)=some (0::(0+k)::w);rw[e];show some (0::(xs.length+(0+(k - xs.length)))::w)=_;rw[show xs.length+(0+(k - xs.length))=0+k by omega]
      | _=>trivial
     | _=>trivial
   rw[Bool.and_false]at key2;exact key2
 rw[Bool.and_false]at key;exact key
def otS:D->LS->R S
 | .tuple ds,L=>.ok (.ot (ds.map .d)) L
 | _,_=>.stuck
def gOt (g:LS->R D):LS->R S:=λ L=>(g L).bind otS
theorem aol (h:JD c n a ga):JE c n a (gOt ga):=by
 obtain⟨t,p,q⟩:=h;refine⟨t,p,λ G F ow σ H L Rr=>?_⟩
 have key:=(q G F ow σ H L Rr).bind (n2:=true) (k:=otS) (B2:=BE c.ca c.X.K) (t2:=λ v H1 Q=>Q v H1) λ d L1 v H1 F1 ow1 _ _ _ R1 b1=>by
  cases d with
  | tuple ds =>
   cases b1 with
   | @tup l vs _ h1 h2 =>
    refine Post.val R1 (.ot h1 (RI.ofAt (by rw[List.length_map,h2.len]) λ k s hk=>?_));rw[List.getElem?_map]at hk;obtain⟨d,hd,rfl⟩:=Option.map_eq_some_iff.mp hk;obtain⟨v,hv,hq⟩:=h2.get hd;exact⟨v,hv,.d hq⟩
  | _=>trivial
 rw[Bool.and_true]at key;exact key
end
def lenS:S->Nat
 | .ol ds=>ds.length
 | _=>0
def gGrw (i j:Nat):LS->R O:=λ L=>match L[i]? with
 | some (some (.ot ss))=>if ss.all akQ=true/\ss.all (λ s=>decide (lenS s+ss.length < sizeLine))=true/\ss.length<=sizeLine/\j < L.length then .ok .nx ((L.set i none).set j none) else .stuck
 | _=>.stuck
section
variable {c:Ct}{iter test:Expr}{i j:Nat}{x z:Str}{pn p3 apos cpos ppos ipos pos zpos:Pos}{zk}
theorem agG (hp:PassesOwn (model c.X.prog c.X.w) c.X.A c.X.env c.X.xe)(hc:c.X.calm=true)(h0:PSl c i iter)(hfr:c.free j)
  (ht:JT c true test (gB (gIsi "list" (gPeek j))))
  (hg:PG c.X (.Name x pn) (L2.gName j)) (hx:PE c.X (.Name x p3) (tVar j))
  (hs:∀ y,foldedSetIterable iter c.X.env y=pure y:=by intro _;rfl)
  (hbase:attributeBase (.Name x p3) "append" c.X.env (eval (.Name x p3) c.X.env)=eval (.Name x p3) c.X.env:=by rfl)
  (hfew:((backTo cpos (starEach [.Constant (.str z) zk zpos] c.X.env)).all (λ x=>!x.1)&&(backToKw cpos (keywordEach [] c.X.env)).all (λ x=>x.1.isSome)&&decide ([(.Constant (.str z) zk zpos:Expr)].length+([]:List Keyword).length+(if([]:List Keyword).isEmpty then 0 else 1) < 30))=true:=by rfl)
  (hline:(apos.endLine == cpos.line)=true:=by rfl) (hst:starEach [.Constant (.str z) zk zpos] c.X.env=(false,eval (.Constant (.str z) zk zpos) c.X.env)::starEach [] c.X.env:=by rfl) (hplain:(backTo cpos (starEach [] c.X.env)).any (·.1)=false:=by rfl)
  (hsw:swapsWith (.Call (.Attribute (.Name x p3) "append" apos) [.Constant (.str z) zk zpos] [] cpos) none ppos.line c.X.env=pure false:=by rfl) :
  JS c (.For (.Name x pn) iter [.If test [.Expr (.Call (.Attribute (.Name x p3) "append" apos) [.Constant (.str z) zk zpos] [] cpos) ppos] [] ipos] [] pos) (gGrw i j):=by
 obtain⟨te,pe0,hte⟩:=h0;obtain⟨tt,p4,q4⟩:=ht
 have pb:=pss_one (ps_if (pos:=ipos) p4 (pss_one (ps_expr (pe_bm PySem.F.plainAttrs_list PySem.F.slot_list_append PySem.F.type_list_append mt_append hx (pa_cons pe_str pa_nil hst) hbase hfew hline hst hplain) hsw)) pss_nil)
 refine⟨_,ps_for hp hc (pi_tup pe0) hg pb hs,λ G F ow σ H L Rr E ft=>?_⟩;unfold gGrw at ft
 cases hL:L[i]? with
 | none=>rw[hL]at ft;exact ft.elim
 | some o =>
 rw[hL]at ft
 cases o with
 | none=>exact ft.elim
 | some s =>
 cases s with
 | ot ss =>
  have ft:Fit c G F (if ss.all akQ=true/\ss.all (λ s=>decide (lenS s+ss.length < sizeLine))=true/\ss.length<=sizeLine/\j < L.length then .ok .nx ((L.set i none).set j none) else .stuck) E:=ft
  by_cases hcn:¬ (ss.all akQ=true/\ss.all (λ s=>decide (lenS s+ss.length < sizeLine))=true/\ss.length<=sizeLine/\j < L.length)
  ·rw[if_neg hcn]at ft;exact ft.elim
  have hcc:=Classical.not_not.mp hcn
  rw[if_pos hcc]at ft;obtain⟨hall,hlen,hsz,hjL⟩:=hcc
  have hjl:j < σ.length:=by rw[←Rr.len];exact hjL
  obtain⟨v,hv,rt⟩:=Rr.sl i _ hL
  cases rt with
  | @ot _ a us _ h1 h3 =>
  have hul:ss.length=us.length:=RI.len h3
  have hpnj:∀ u,(pinOf c.pb c.v0)[j]?≠some (some u):=λ u h=>hfr (jZ h).1
  have item:∀ {k:Nat} {u:V},us[k]?=some u->(∃ d,scal d=true/\isRf u=false/\∀ K F,Dq K F u d)∨∃ l xs ds,u=.ref l/\H l=some (.lst xs)/\ow l=some [i+1,k]/\DqA c.X.K F xs ds/\xs.length+us.length < sizeLine:=λ {k u} hk=>by
   obtain⟨s,hs1,hs2⟩:=RI.get h3 hk
   have hiS:=List.all_eq_true.mp hall s (List.mem_of_getElem? hs1)
   cases hs2 with
   | d q =>
    refine .inl ?_
    rename_i d
    refine⟨d,hiS,?_,λ K F=>?_⟩
    ·cases q with
     | lst _ _=>cases hiS
     | tup _ _=>cases hiS
     | _=>rfl
    ·cases q with
     | lst _ _=>cases hiS
     | tup _ _=>cases hiS
     | non=>exact .non
     | bl b=>exact .bl b
     | int b=>exact .int b
     | str b=>exact .str b
   | ol a b q =>
    rw[Nat.zero_add]at b
    have hl:=of_decide_eq_true (List.all_eq_true.mp hlen _ (List.mem_of_getElem? hs1))
    exact .inr ⟨_,_,_,rfl,a,b,q,by rw[q.len,←hul];exact hl⟩
   | _=>cases hiS
  have cell:∀ {l:Addr},V.ref l∈us->(∃ xs ds,H l=some (.lst xs)/\DqA c.X.K F xs ds/\xs.length+us.length < sizeLine)/\F l=none/\G l=none/\c.B l=none/\offR i ow l=none:=λ {l} hm=>by
   obtain⟨k,hk,hk2⟩:=List.getElem_of_mem hm
   have hk3:=List.getElem?_eq_some_iff.mpr ⟨hk,hk2⟩
   rcases item hk3 with ⟨d,_,w,_⟩ | ⟨l',xs,ds,w,w1,w2,w4,w5⟩
   ·cases w
   ·cases w
    exact⟨⟨_,_,w1,w4,w5⟩,(Rr.dF l _ w2).1,(Rr.dF l _ w2).2.1,Rr.dB l _ w2,agC w2⟩
  have RD:c.Rl G F (offR i ow) σ H ((L.set i none).set j none):=(Rr.drop i).forget j
  have at1:∀ {H3:Hp} {G':Hp} {ow':Addr->Option Path} {σ':L2.St} {L':LS},c.Rl G' F ow' σ' H3 L'->SqT c.X.K H3 a us:=λ r=>.of (r.exF a _ h1)
  refine hte Rr hv _ ⟨a,rfl,⟨us,at1 Rr⟩,?_⟩;refine⟨λ q m σ3 H3=>m=us.length - q/\q<=us.length/\c.Rl G F (offR i ow) σ3 H3 ((L.set i none).set j none)/\∀ l,V.ref l∈us->∃ xs ds,H3 l=some (.lst xs)/\DqA c.X.K F xs ds/\xs.length+us.length < sizeLine+q,⟨us.length,rfl,Nat.zero_le _,RD,λ l hm=>(cell hm).1⟩,?_⟩;rintro q m σ3 H3 ⟨rfl,hq,R3,hc3⟩
  by_cases hlt:q < us.length
  ·have hk3:us[q]?=some us[q]:=List.getElem?_eq_getElem hlt
   refine .inr ⟨⟨us,us[q],at1 R3,hk3⟩,λ σ4 H4=>c.Rl G F (offR i ow) σ4 H4 ((L.set i none).set j none)/\∀ l,V.ref l∈us->∃ xs ds,H4 l=some (.lst xs)/\DqA c.X.K F xs ds/\xs.length+us.length < sizeLine+(q+1),λ σ4 H4 w=>⟨us.length - (q+1),by omega,rfl,hlt,w⟩,λ y H4 hy=>?_⟩;obtain⟨rfl,e2⟩:=hy
   have:=e2 us (at1 R3)
   rw[hk3]at this
   cases this
   have R4:c.Rl G F (offR i ow) (σ3.set j (some us[q])) H4 ((L.set i none).set j none):=R3.anyV (λ s h=>by
    rcases gY h with ⟨_,h1⟩ | ⟨h1,_⟩
    ·cases h1
    ·exact h1 rfl) hpnj
   have hj3:(σ3.set j (some us[q]))[j]?=some (some us[q]):=List.getElem?_set_self (by
    rw[←R3.len,List.length_set,List.length_set]
    exact hjL)
   have hwl:(σ3.set j (some us[q])).length=σ.length:=by
    rw[←R4.len,List.length_set,List.length_set];exact Rr.len
   have rl:∀ {ow':Addr->Option Path} {s:S},(∀ a p,ow' a=some p->F a=none/\NT (H4 a)/\c.B a=none)->RS c.X.K c.ca F H4 ow' [j+1] s us[q]->c.Rl (λ _=>none) F ow' (σ3.set j (some us[q])) H4 ((List.replicate σ.length none).set j (some s)):=λ {ow' s} how rs=>by
    refine⟨R4.exF,(λ a o h=>nomatch h),λ a p h=>⟨(how a p h).1,rfl,(how a p h).2.1⟩,λ a o h=>.inl rfl,by rw[List.length_set,List.length_replicate,hwl],λ q s' h=>?_,R4.pin,R4.exB,λ a p h=>(how a p h).2.2⟩;rcases gY h with ⟨rfl,h4⟩ | ⟨h4,h5⟩
    ·cases h4
     exact⟨_,hj3,RT.of rs⟩
    ·rw[List.getElem?_replicate]at h5
     split at h5<;>cases h5
   have run:∀ {s:S} {d:PyData} {b:Bool},gPeek j ((List.replicate σ.length none).set j (some s))=.ok d ((List.replicate σ.length none).set j (some s))->isTy "list" d=some (.bool b)->gB (gIsi "list" (gPeek j)) ((List.replicate σ.length none).set j (some s))=.ok b ((List.replicate σ.length none).set j (some s)):=λ {s d b} h1 h2=>by
    show((gPeek j ((List.replicate σ.length none).set j (some s))).bind λ d L1=>ofO (isTy "list" d) L1).bind asB=_;rw[h1,R.bind_ok,h2]
    rfl
   have at_j:∀ s:S,((List.replicate σ.length none).set j (some s):LS)[j]?=some (some s):=λ s=>List.getElem?_set_self (by rw[List.length_replicate];exact hjl)
   have pk:∀ {s:S} {d:PyData},(s=.d d∨∃ ds,s=.ol ds/\d=.list ds)->gPeek j ((List.replicate σ.length none).set j (some s))=.ok d ((List.replicate σ.length none).set j (some s)):=λ {s d} h=>by
    unfold gPeek;rw[at_j s];rcases h with rfl | ⟨ds,rfl,rfl⟩<;>rfl
   rcases item hk3 with ⟨d,w1,w2,w3⟩ | ⟨l,_,_,w1,_,w3,_,_⟩
   ·have R5:=rl (ow':=λ _=>none) (s:=.d d) (λ a p h=>nomatch h) (.d (w3 _ _))
    have key:=q4 _ F _ _ H4 _ R5
    rw[run (pk (.inl rfl)) (yq w1)]at key;refine key _ λ b H5 F5 ow5 e5 s5 r5 hb=>?_
    subst hb
    exact⟨R4.more (s5 rfl),λ l hl=>by
     obtain⟨xs,ds,z1,z2,z3⟩:=hc3 l hl
     exact⟨xs,ds,s5 rfl l _ z1,z2,by omega⟩⟩
   ·have hmem:V.ref l∈us:=by rw[←w1];exact List.getElem_mem hlt
    obtain⟨xs,ds,z1,z2,z9⟩:=hc3 l hmem;obtain⟨_,c1,c2,c3,c4⟩:=cell hmem
    have R5:=rl (ow':=λ a=>if a=l then some [j+1] else none) (s:=.ol ds) (λ a p h=>by
     by_cases z:a=l
     ·subst z
      exact⟨c1,by rw[z1];exact .of kT_lst,c3⟩
     ·rw[if_neg z]at h
      cases h) (by
     rw[w1]
     exact .ol z1 (if_pos rfl) z2)
    have key:=q4 _ F _ _ H4 _ R5
    rw[run (pk (.inr ⟨ds,rfl,rfl⟩)) (yr)]at key;refine key _ λ b H5 F5 ow5 e5 s5 r5 hb=>?_
    subst hb
    have z5:=s5 rfl l _ z1
    refine⟨us[q],hj3,?_⟩;refine⟨?_,l,xs,.str z,w1,rfl,z5,by omega,(R4.more (s5 rfl)).loose c1 c2 c3 c4,λ l' hl'=>?_⟩
    ·rw[w1];exact .inl ⟨rfl,xs,.of z5⟩
    ·by_cases y:l'=l
     ·subst y
      exact⟨_,ds++[.str z],upd_same,z2.append (.one (.str z)),by rw[List.length_append,List.length_singleton];omega⟩
     ·rw[upd_ne y];obtain⟨xs',ds',y1,y2,y3⟩:=hc3 l' hl';exact⟨xs',ds',s5 rfl l' _ y1,y2,by omega⟩
  ·have hl2:us.length<=q:=Nat.le_of_not_lt hlt
   exact .inl ⟨⟨us,at1 R3,hl2⟩,ft σ3 H3 F _ (Same.refl F) R3⟩
 | _=>exact ft.elim
end
end VS
namespace Lw
open PySem PySem.Spec PyProof.Rows L2 VS
def yw:LS->R O:=(gSeq (gIf (gOr (gB (gOp dLt (gUn dLen (gPeek 0)) (gC (.int 1)))) (gB (gOp dGt (gUn dLen (gPeek 0)) (gC (.int 12))))) (gRet (gD (gC (.bool false)))) gNext)
  (gSeq (gFor (λ L=>((gVar 0) L).bind fG) (fName 1) (gIf (gB (gOp dNotIn (gPeek 1) (gC (.str "abcdefghijklmnopqrstuvwxyz")))) (gRet (gD (gC (.bool false)))) gNext))
  (gRet (gD (gC (.bool true))))))
def lu:LS->R S:=runDef [false] 2 yw
def yx:LS->R O:=(gRet (gLst (gCons (gFz (gUn dList (gFz (gSl (gPeek 0) gNo (gSo (gC (.int 63))))))) (gCons (gC (.int 0)) (gCons (gC (.int 0)) (gCons (gC (.int 1)) (gCons (gC (.int 0)) gNil)))))))
def lw:LS->R S:=runDef [true] 1 yx
def nZ:LS->R O:=(gSeq (gSetIx 0 (gC (.int 4)) (gFz (gOp dAdd (gIxP 0 (gC (.int 4))) (gC (.int 1)))))
  (gSeq (gIf (gB (gOp dLe (gIxP 0 (gC (.int 2))) (gC (.int 1)))) (gSeq (gAsg 2 (gD (gC (.int 7))))
  (gSeq (gIf (gB (gOp dLt (gIxP 0 (gC (.int 1))) (gUn dLen (gIxP 0 (gC (.int 0)))))) (gSeq (gAsg 2 (gD (gOp dIx (gIxP 0 (gC (.int 0))) (gIxP 0 (gC (.int 1))))))
  (gSetIx 0 (gC (.int 1)) (gFz (gOp dAdd (gIxP 0 (gC (.int 1))) (gC (.int 1)))))) gNext)
  (gSeq (gSetIx 0 (gC (.int 3)) (gOp dMod (gFz (gOp dAdd (gFz (gOp dAdd (gFz (gOp dMul (gIxP 0 (gC (.int 3))) (gC (.int 48271)))) (gOp dMod (gVar 2) (gC (.int 998244353))))) (gIxP 0 (gC (.int 4))))) (gC (.int 2147483647))))
  (gIf (gB (gOp dGe (gPeek 2) (gOp dPow (gC (.int 10)) (gC (.int 18))))) (gSetIx 0 (gC (.int 2)) (gVar 2)) gNext)))) gNext)
  (gSeq (gIf (gB (gOp dGt (gIxP 0 (gC (.int 2))) (gC (.int 1)))) (gSeq (gAsg 3 (gD (gOp dMod (gIxP 0 (gC (.int 2))) (gVar 1))))
  (gSeq (gSetIx 0 (gC (.int 2)) (gOp dDiv (gIxP 0 (gC (.int 2))) (gVar 1)))
  (gRet (gMove 3)))) gNext)
  (gRet (gD (gOp dMod (gOp dDiv (gOp dMod (gFz (gOp dMul (gIxP 0 (gC (.int 3))) (gC (.int 40692)))) (gC (.int 2147483399))) (gC (.int 3))) (gVar 1)))))))
def ao:LS->R S:=runDef Q0 4 nZ
def rD:LS->R O:=(gSeq (gAsg 2 (gD (gC (.str "abcdefghijklmnopqrstuvwxyz"))))
  (gSeq (gAsg 3 (gSl (gPeek 1) gNo (gSo (gC (.int 10)))))
  (gSeq (gFor (λ L=>((gCons (gFz (gOp dAdd (gUn dLen (gPeek 0)) (gC (.int 1)))) gNil) L).bind abC) (fName 4) (gSeq (gIf (gB (gOp dNotIn (gPeek 1) (gPeek 0))) (gRet (gMove 1)) gNext)
  (gAsg 1 (gOp dAdd (gFz (gOp dAdd (gVar 3) (gIxP 2 (gOp dMod (gVar 4) (gC (.int 26)))))) (gIxP 2 (gOp dDiv (gVar 4) (gC (.int 26))))))))
  (gRet (gMove 1)))))
def fK:LS->R S:=runDef Q0 5 rD
def vm:LS->R O:=(gSeq (gAsg 2 (gD (gC (.str "abcdefghijklmnopqrstuvwxyz"))))
  (gRet (gD (gJoin (gC (.str "")) (gFz (gLc [3] (λ L=>((gCons (gVar 1) gNil) L).bind abC) (fName 3) gYes (gIxP 2 (gFz (gCall Lw.ao [.r 0,.d (gC (.int 26))])))))))))
def bR:LS->R S:=runDef Q0 4 vm
def tO:LS->R O:=(gSeq (gAsg 2 (gCall Lw.ao [.r 0,.d (gC (.int 3))]))
  (gSeq (gAsg 3 (gCall Lw.bR [.r 0,.d (gFz (gOp dAdd (gC (.int 1)) (gFz (gCall Lw.ao [.r 0,.d (gC (.int 11))]))))]))
  (gSeq (gAsg 4 (gCall Lw.ao [.r 0,.d (gUn dLen (gPeek 3))]))
  (gSeq (gAsg 5 (gLst gNil))
  (gSeq (gFor (λ L=>((gCons (gVar 1) gNil) L).bind abC) (fName 6) (gSeq (gAsg 7 (gOp dAdd (gFz (gOp dAdd (gFz (gSl (gPeek 3) gNo (gSo (gVar 4)))) (gFz (gCall Lw.bR [.r 0,.d (gC (.int 1))])))) (gFz (gSl (gPeek 3) (gSo (gFz (gOp dAdd (gVar 4) (gC (.int 1))))) gNo))))
  (gSeq (gIf (gB (gOp dEq (gPeek 2) (gC (.int 1)))) (gAsg 7 (gSl (gVar 3) gNo (gSo (gFz (gOp dAdd (gC (.int 1)) (gFz (gCall Lw.ao [.r 0,.d (gUn dLen (gPeek 3))]))))))) gNext)
  (gSeq (gIf (gB (gOp dEq (gPeek 2) (gC (.int 2)))) (gAsg 7 (gCall Lw.bR [.r 0,.d (gFz (gOp dAdd (gC (.int 1)) (gFz (gCall Lw.ao [.r 0,.d (gC (.int 12))]))))])) gNext)
  (gDrop (gApp 5 (gFz (gCall Lw.fK [.r 5,.d (gVar 7)]))))))))
  (gRet (gMove 5)))))))
def ie:LS->R S:=runDef Q0 8 tO
end Lw
namespace Lw
open PySem VS
def srcS (cells:List Int)(p b st k:Int):S:=.ol [.list (cells.map PyData.int),.int p,.int b,.int st,.int k]
def Src (s:S):Prop:=∃ (cells:List Int) (p b st k:Int),s=srcS cells p b st k/\cells.length<=63/\0<=p/\p<=cells.length/\0<=b/\0<=st/\st < 2147483647
theorem adL (cells:List Int)(j:Nat)(h:j < cells.length):dIx (.list (cells.map PyData.int)) (.int (j:Int))=some (.int cells[j]):=by
 rw[o8,List.getElem?_map,List.getElem?_eq_getElem h]
 rfl
theorem amk:dPow (.int 10) (.int 18)=some (.int 1000000000000000000):=by
 rw[aje ⟨by decide,by decide,by decide⟩]
 rfl
theorem tQ (cells:List Int)(p b st k n:Int)(o:Option S)(h0:0 < n)(h1:n < 1073741824)(hl:cells.length<=63)(hp0:0<=p)(hp1:p<=cells.length)(hb:0<=b)(hs0:0<=st)(hs1:st < 2147483647) :
  ∃ r s' o2 L,gSeq (gIf (gB (gOp dGt (gIxP 0 (gC (.int 2))) (gC (.int 1)))) (gSeq (gAsg 3 (gD (gOp dMod (gIxP 0 (gC (.int 2))) (gVar 1))))
  (gSeq (gSetIx 0 (gC (.int 2)) (gOp dDiv (gIxP 0 (gC (.int 2))) (gVar 1))) (gRet (gMove 3)))) gNext)
  (gRet (gD (gOp dMod (gOp dDiv (gOp dMod (gFz (gOp dMul (gIxP 0 (gC (.int 3))) (gC (.int 40692)))) (gC (.int 2147483399))) (gC (.int 3))) (gVar 1)))) [some (srcS cells p b st k),some (.d (.int n)),o,none]=.ok (.rt (.d (.int r))) (some s'::o2::L)/\0<=r/\r < n/\Src s':=by
 by_cases c:1 < b
 ·refine⟨b % n,srcS cells p (b / n) st k,some (.d (.int n)),[o,some (.d (.int (b % n)))],?_,Int.emod_nonneg _ (by omega),Int.emod_lt_of_pos _ h0,cells,p,b / n,st,k,rfl,hl,hp0,hp1,Int.ediv_nonneg hb (by omega),hs0,hs1⟩
  simp only[VS.evs,Nat.reduceAdd,Nat.reduceLT,Nat.reduceLeDiff,Nat.reduceSub,Nat.reduceEqDiff,srcS,c,lV h0,wu h0 h1,decide_true,if_true]
 ·refine⟨st * 40692 % 2147483399 / 3 % n,srcS cells p b st k,some (.d (.int n)),[o,none],?_,Int.emod_nonneg _ (by omega),Int.emod_lt_of_pos _ h0,cells,p,b,st,k,rfl,hl,hp0,hp1,hb,hs0,hs1⟩
  simp only[VS.evs,Nat.reduceAdd,Nat.reduceLT,Nat.reduceLeDiff,Nat.reduceSub,Nat.reduceEqDiff,srcS,c,decide_false,if_false,Bool.false_eq_true,zW (show -(2 ^ 64) < st by omega) (show st < 2 ^ 64 by omega),lV (show(0:Int) < 2147483399 by decide),lV h0,wu (show(0:Int) < 3 by decide) (show(3:Int) < 1073741824 by decide)]
theorem aa6 (cells:List Int)(p b st k n:Int)(cell:Int)(hb:0<=b)(hs0:0<=st)(hs1:st < 2147483647):∃ b' st',gSeq (gSetIx 0 (gC (.int 3)) (gOp dMod (gFz (gOp dAdd (gFz (gOp dAdd (gFz (gOp dMul (gIxP 0 (gC (.int 3))) (gC (.int 48271)))) (gOp dMod (gVar 2) (gC (.int 998244353))))) (gIxP 0 (gC (.int 4))))) (gC (.int 2147483647))))
  (gIf (gB (gOp dGe (gPeek 2) (gOp dPow (gC (.int 10)) (gC (.int 18))))) (gSetIx 0 (gC (.int 2)) (gVar 2)) gNext) [some (srcS cells p b st k),some (.d (.int n)),some (.d (.int cell)),none]=.ok .nx [some (srcS cells p b' st' k),some (.d (.int n)),some (.d (.int cell)),none]/\0<=b'/\0<=st'/\st' < 2147483647:=by
 have st0:0<=(st * 48271+cell % 998244353+k) % 2147483647:=Int.emod_nonneg _ (by omega)
 have st1:(st * 48271+cell % 998244353+k) % 2147483647 < 2147483647:=Int.emod_lt_of_pos _ (by omega)
 by_cases c:1000000000000000000<=cell
 ·refine⟨cell,(st * 48271+cell % 998244353+k) % 2147483647,?_,by omega,st0,st1⟩
  simp only[VS.evs,Nat.reduceAdd,Nat.reduceLT,Nat.reduceLeDiff,Nat.reduceSub,Nat.reduceEqDiff,srcS,amk,c,decide_true,if_true,zW (show -(2 ^ 64) < st by omega) (show st < 2 ^ 64 by omega),lV (show(0:Int) < 998244353 by decide),lV (show(0:Int) < 2147483647 by decide)]
 ·refine⟨b,(st * 48271+cell % 998244353+k) % 2147483647,?_,hb,st0,st1⟩
  simp only[VS.evs,Nat.reduceAdd,Nat.reduceLT,Nat.reduceLeDiff,Nat.reduceSub,Nat.reduceEqDiff,srcS,amk,c,decide_false,if_false,Bool.false_eq_true,zW (show -(2 ^ 64) < st by omega) (show st < 2 ^ 64 by omega),lV (show(0:Int) < 998244353 by decide),lV (show(0:Int) < 2147483647 by decide)]
theorem o9 {s:S}(h:Src s){n:Int}(h0:0 < n)(h1:n < 1073741824):∃ r s',ao [some s,some (.d (.int n))]=.ok (.d (.int r)) [some s',none]/\0<=r/\r < n/\Src s':=by
 obtain⟨cells,p,b,st,k,rfl,hl,hp0,hp1,hb,hs0,hs1⟩:=h;obtain⟨j,rfl⟩:=Int.eq_ofNat_of_zero_le hp0
 have s0:gSetIx 0 (gC (.int 4)) (gFz (gOp dAdd (gIxP 0 (gC (.int 4))) (gC (.int 1)))) [some (srcS cells j b st k),some (.d (.int n)),none,none]=.ok .nx [some (srcS cells j b st (k+1)),some (.d (.int n)),none,none]:=by
  simp only[VS.evs,Nat.reduceAdd,Nat.reduceLT,Nat.reduceLeDiff,Nat.reduceSub,Nat.reduceEqDiff,srcS,if_true]
 by_cases c1:b<=1
 ·by_cases c2:(j:Int) < cells.length
  ·have hj:j < cells.length:=by omega
   obtain⟨b',st',m1,m2,m3,m4⟩:=aa6 cells ((j:Int)+1) b st (k+1) n cells[j] hb hs0 hs1;obtain⟨r,s',o2,L,t1,t2,t3,t4⟩:=tQ cells ((j:Int)+1) b' st' (k+1) n (some (.d (.int cells[j]))) h0 h1 hl (by omega) (by omega) m2 m3 m4;refine⟨r,s',?_,t2,t3,t4⟩;unfold ao nZ;rw[aaW]
   simp only[List.length_cons,List.length_nil,Nat.reduceAdd,Nat.reduceSub,List.replicate_succ,List.replicate_zero,List.cons_append,List.nil_append]
   rw[iy,s0,d9,iy,ev_if]
   have e1:gB (gOp dLe (gIxP 0 (gC (.int 2))) (gC (.int 1))) [some (srcS cells j b st (k+1)),some (.d (.int n)),none,none]=.ok true [some (srcS cells j b st (k+1)),some (.d (.int n)),none,none]:=by
    simp only[VS.evs,Nat.reduceAdd,Nat.reduceLT,Nat.reduceLeDiff,Nat.reduceSub,Nat.reduceEqDiff,srcS,c1,decide_true]
   rw[e1,aaU,if_pos rfl,iy]
   have e2:gAsg 2 (gD (gC (.int 7))) [some (srcS cells j b st (k+1)),some (.d (.int n)),none,none]=.ok .nx [some (srcS cells j b st (k+1)),some (.d (.int n)),some (.d (.int 7)),none]:=rfl
   rw[e2,d9,iy]
   have e3:gIf (gB (gOp dLt (gIxP 0 (gC (.int 1))) (gUn dLen (gIxP 0 (gC (.int 0)))))) (gSeq (gAsg 2 (gD (gOp dIx (gIxP 0 (gC (.int 0))) (gIxP 0 (gC (.int 1))))))
     (gSetIx 0 (gC (.int 1)) (gFz (gOp dAdd (gIxP 0 (gC (.int 1))) (gC (.int 1)))))) gNext [some (srcS cells j b st (k+1)),some (.d (.int n)),some (.d (.int 7)),none]=.ok .nx [some (srcS cells ((j:Int)+1) b st (k+1)),some (.d (.int n)),some (.d (.int cells[j])),none]:=by
    simp only[VS.evs,Nat.reduceAdd,Nat.reduceLT,Nat.reduceLeDiff,Nat.reduceSub,Nat.reduceEqDiff,srcS,List.length_map,c2,decide_true,if_true,adL cells j hj]
   rw[e3,d9,m1,d9,t1]
   rfl
  ·obtain⟨b',st',m1,m2,m3,m4⟩:=aa6 cells j b st (k+1) n 7 hb hs0 hs1;obtain⟨r,s',o2,L,t1,t2,t3,t4⟩:=tQ cells j b' st' (k+1) n (some (.d (.int 7))) h0 h1 hl (by omega) (by omega) m2 m3 m4;refine⟨r,s',?_,t2,t3,t4⟩;unfold ao nZ;rw[aaW]
   simp only[List.length_cons,List.length_nil,Nat.reduceAdd,Nat.reduceSub,List.replicate_succ,List.replicate_zero,List.cons_append,List.nil_append]
   rw[iy,s0,d9,iy,ev_if]
   have e1:gB (gOp dLe (gIxP 0 (gC (.int 2))) (gC (.int 1))) [some (srcS cells j b st (k+1)),some (.d (.int n)),none,none]=.ok true [some (srcS cells j b st (k+1)),some (.d (.int n)),none,none]:=by
    simp only[VS.evs,Nat.reduceAdd,Nat.reduceLT,Nat.reduceLeDiff,Nat.reduceSub,Nat.reduceEqDiff,srcS,c1,decide_true]
   rw[e1,aaU,if_pos rfl,iy]
   have e2:gAsg 2 (gD (gC (.int 7))) [some (srcS cells j b st (k+1)),some (.d (.int n)),none,none]=.ok .nx [some (srcS cells j b st (k+1)),some (.d (.int n)),some (.d (.int 7)),none]:=rfl
   rw[e2,d9,iy]
   have e3:gIf (gB (gOp dLt (gIxP 0 (gC (.int 1))) (gUn dLen (gIxP 0 (gC (.int 0)))))) (gSeq (gAsg 2 (gD (gOp dIx (gIxP 0 (gC (.int 0))) (gIxP 0 (gC (.int 1))))))
     (gSetIx 0 (gC (.int 1)) (gFz (gOp dAdd (gIxP 0 (gC (.int 1))) (gC (.int 1)))))) gNext [some (srcS cells j b st (k+1)),some (.d (.int n)),some (.d (.int 7)),none]=.ok .nx [some (srcS cells j b st (k+1)),some (.d (.int n)),some (.d (.int 7)),none]:=by
    simp only[VS.evs,Nat.reduceAdd,Nat.reduceLT,Nat.reduceLeDiff,Nat.reduceSub,Nat.reduceEqDiff,srcS,List.length_map,c2,decide_false,if_false,Bool.false_eq_true]
   rw[e3,d9,m1,d9,t1]
   rfl
 ·obtain⟨r,s',o2,L,t1,t2,t3,t4⟩:=tQ cells j b st (k+1) n none h0 h1 hl (by omega) (by omega) hb hs0 hs1;refine⟨r,s',?_,t2,t3,t4⟩;unfold ao nZ;rw[aaW]
  simp only[List.length_cons,List.length_nil,Nat.reduceAdd,Nat.reduceSub,List.replicate_succ,List.replicate_zero,List.cons_append,List.nil_append]
  rw[iy,s0,d9,iy,ev_if]
  have e1:gB (gOp dLe (gIxP 0 (gC (.int 2))) (gC (.int 1))) [some (srcS cells j b st (k+1)),some (.d (.int n)),none,none]=.ok false [some (srcS cells j b st (k+1)),some (.d (.int n)),none,none]:=by
   simp only[VS.evs,Nat.reduceAdd,Nat.reduceLT,Nat.reduceLeDiff,Nat.reduceSub,Nat.reduceEqDiff,srcS,c1,decide_false]
  rw[e1,aaU,if_neg Bool.false_ne_true,acP,d9,t1]
  rfl
def sOf (ws:List Nat):Str:=⟨ws.toArray⟩
theorem sE (ws:List Nat):(sOf ws).cps.toList=ws:=by simp[sOf]
theorem mj (ws:List Nat):(sOf ws).length=ws.length:=by simp[sOf,Str.length]
theorem ajF (a b:List Nat):sOf a++sOf b=sOf (a++b):=by
 show(⟨a.toArray++b.toArray⟩:Str)=⟨(a++b).toArray⟩
 simp
theorem ajG {a b:List Nat}(h:sOf a=sOf b):a=b:=by
 have:=congrArg (λ s:Str=>s.cps.toList) h
 simpa [sOf] using this
theorem aml (s:Str):s=sOf s.cps.toList:=by
 cases s
 simp[sOf]
def Small (ws:List Nat):Prop:=∀ c∈ws,97<=c/\c<=122
theorem Small.app {a b:List Nat}(h:Small a)(h':Small b):Small (a++b):=λ c hc=>(List.mem_append.mp hc).elim (h c) (h' c)
theorem Small.take {a:List Nat}(n:Nat)(h:Small a):Small (a.take n):=λ c hc=>h c (List.mem_of_mem_take hc)
theorem Small.drop {a:List Nat}(n:Nat)(h:Small a):Small (a.drop n):=λ c hc=>h c (List.mem_of_mem_drop hc)
abbrev abc:Str:="abcdefghijklmnopqrstuvwxyz"
theorem adM:∀ k∈List.range 26,abc.cps.toList[k]?=some (97+k):=by decide +kernel
theorem aac:abc.cps.toList.length=26:=by decide +kernel
theorem adN {r:Int}(h0:0<=r)(h1:r < 26):dIx (.str abc) (.int r)=some (.str (sOf [97+r.toNat])):=by
 obtain⟨k,rfl⟩:=Int.eq_ofNat_of_zero_le h0
 have hk:k < 26:=by omega
 have e:=adM k (List.mem_range.mpr hk)
 have hl:abc.length<=sizeLine:=by
  have:abc.length=26:=aac
  rw[this,PySem.sizeLine_eq]
  omega
 have e2:L2.atI abc.cps.toList (k:Int)=some (97+k):=L2.atI_nat e
 show(if abc.length<=sizeLine then(L2.atI abc.cps.toList (k:Int)).map λ k=>PyData.str ⟨#[k]⟩ else none)=_;rw[if_pos hl,e2]
 rfl
theorem aom {j:Int}(h0:0<=j)(h1:j<=100000):-(2 ^ 62)<=j/\j < 2 ^ 62:=by omega
theorem aad {j:Int}{L:LS}(h0:0<=j)(h1:j<=100000):abC [.int j] L=.ok (intsD 0 j.toNat) L:=if_pos (aom h0 h1)
theorem adP (m:Int):∀ (ds acc:List D) (s:S),Src s->acc.length+ds.length < sizeLine->∃ ws s',lcGo [3] (fName 3) gYes (gIxP 2 (gFz (gCall ao [.r 0,.d (gC (.int 26))]))) ds acc [some s,some (.d (.int m)),some (.d (.str abc)),none]
  = .ok (.ol (acc++ws.map λ c=>.str (sOf [c]))) [some s',some (.d (.int m)),some (.d (.str abc)),none]/\ws.length=ds.length/\Small ws/\Src s'
 | [],acc,s,hs,_=>⟨[],s,by rw[aaY,List.map_nil,List.append_nil],rfl,(λ c hc=>by cases hc),hs⟩
 | d::ds,acc,s,hs,hl=>by
  obtain⟨r,s1,e,r0,r1,h1⟩:=o9 hs (n:=26) (by omega) (by omega);rw[List.length_cons]at hl;obtain⟨ws,s',e2,l2,k2,h2⟩:=adP m ds (acc++[.str (sOf [97+r.toNat])]) s1 h1 (by rw[List.length_append,List.length_singleton];omega);refine⟨(97+r.toNat)::ws,s',?_,by rw[List.length_cons,List.length_cons,l2],λ c hc=>?_,h2⟩
  ·have step:gIxP 2 (gFz (gCall ao [.r 0,.d (gC (.int 26))])) [some s,some (.d (.int m)),some (.d (.str abc)),some (.d d)]=.ok (.str (sOf [97+r.toNat])) [some s1,some (.d (.int m)),some (.d (.str abc)),some (.d d)]:=by
    simp only[VS.evs,Nat.reduceAdd,Nat.reduceLT,Nat.reduceLeDiff,Nat.reduceSub,Nat.reduceEqDiff,e,adN r0 r1]
   rw[agh (L1:=[some s,some (.d (.int m)),some (.d (.str abc)),some (.d d)]) (L2:=[some s,some (.d (.int m)),some (.d (.str abc)),some (.d d)]) [3] (fName 3) gYes _ d ds acc rfl rfl step (by omega)];rw[show wipeL [some s1,some (.d (.int m)),some (.d (.str abc)),some (.d d)] [3]=[some s1,some (.d (.int m)),some (.d (.str abc)),none] from rfl,e2,List.map_cons,List.append_assoc]
   rfl
  ·rcases List.mem_cons.mp hc with rfl | hc
   ·omega
   ·exact k2 c hc
theorem strs_map (ws:List Nat):strsOf (ws.map λ c=>PyData.str (sOf [c]))=some (ws.map λ c=>sOf [c]):=by
 induction ws with
 | nil=>rfl
 | cons c ws ih =>
  show(strsOf (ws.map λ c=>PyData.str (sOf [c]))).map (sOf [c]::·)=_;rw[ih]
  rfl
theorem yz:∀ l:List (List Nat),TL.joinL [] l=l.flatten
 | []=>rfl
 | [p]=>by simp[TL.joinL]
 | p::q::r=>by
  show p++([]++TL.joinL [] (q::r))=_;rw[List.nil_append,yz (q::r)]
  rfl
theorem abN:("":Str).cps.toList=[]:=by decide +kernel
theorem abO (ys:List (List Nat)):Txt.join ("":Str) (ys.map sOf)=sOf ys.flatten:=by
 rw[aml (Txt.join _ _),TL.join_eq]
 congr 1
 show TL.tl (Str.join _ _)=_;rw[TL.tl_join,show TL.tl ("":Str)=[] from abN,yz,List.map_map]
 congr 1
 rw[show(TL.tl∘sOf)=id from funext sE,List.map_id]
theorem wB (ws:List Nat):(ws.map λ c=>[c]).flatten=ws:=by
 induction ws with
 | nil=>rfl
 | cons c ws ih=>rw[List.map_cons,List.flatten_cons,ih];rfl
theorem aae (ws:List Nat):((ws.map λ c=>sOf [c]).map (·.length)).sum=ws.length:=by
 induction ws with
 | nil=>rfl
 | cons c ws ih =>
  rw[List.map_cons,List.map_cons,List.sum_cons,ih,mj]
  simp only[List.length_cons,List.length_nil]
  omega
theorem abP {ws:List Nat}(h:ws.length<=100000):dJoin (.str "") (.list (ws.map λ c=>PyData.str (sOf [c])))=some (.str (sOf ws)):=by
 show(strsOf _).bind _=_;rw[strs_map];show(if joinOk "" (ws.map λ c=>sOf [c]) then some (PyData.str (Txt.join "" (ws.map λ c=>sOf [c]))) else none)=_
 have hj:joinOk "" (ws.map λ c=>sOf [c])=true:=by
  unfold joinOk;rw[aae,List.length_map,show(("":Str).length)=0 from by decide +kernel];exact decide_eq_true (by omega)
 rw[if_pos hj]
 have e:(ws.map λ c=>sOf [c])=(ws.map λ c=>[c]).map sOf:=by rw[List.map_map];rfl
 rw[e,abO,wB]
theorem aaf {s:S}(hs:Src s){m:Int}(h0:0<=m)(h1:m<=1000):∃ ws s',bR [some s,some (.d (.int m))]=.ok (.d (.str (sOf ws))) [some s',none]/\ws.length=m.toNat/\Small ws/\Src s':=by
 obtain⟨ws,s',e,l,k,h⟩:=adP m (intsD 0 m.toNat) [] s hs (by rw[pK,PySem.sizeLine_eq,List.length_nil];omega);rw[pK]at l;refine⟨ws,s',?_,l,k,h⟩;unfold bR vm
 simp only[VS.evs,Nat.reduceAdd,Nat.reduceLT,Nat.reduceLeDiff,Nat.reduceSub,Nat.reduceEqDiff]
 rw[aad h0 (by omega)]
 simp only[VS.evs,Nat.reduceAdd,Nat.reduceLT,Nat.reduceLeDiff,Nat.reduceSub,Nat.reduceEqDiff,e,abP (ws:=ws) (by omega)]
def Good (w:List Nat):Prop:=Small w/\1<=w.length/\w.length<=12
abbrev nD (w:List Nat):D:=.str (sOf w)
theorem agH (w:List Nat)(ns:List (List Nat)):dInB (nD w) (.list (ns.map nD))=some (decide (w∈ns)):=by
 have hf:∀ l:List (List Nat),(l.map nD).all flatD=true:=λ l=>by
  induction l with
  | nil=>rfl
  | cons x l ih=>rw[List.map_cons,List.all_cons,ih];rfl
 show(if inOk (nD w) (ns.map nD) then some ((ns.map nD).any λ z=>z.eqv (nD w)) else none)=_;rw[if_pos (.inl ⟨rfl,hf ns⟩)]
 congr 1
 induction ns with
 | nil=>rfl
 | cons x l ih =>
  rw[List.map_cons,List.any_cons,ih,zV]
  by_cases h:x=w
  ·subst h
   simp
  ·have h1:¬ sOf x=sOf w:=λ z=>h (ajG z)
   have h2:¬ w=x:=λ z=>h z.symm
   simp[h1,h2]
theorem tR (w:List Nat)(ns:List (List Nat)):dNotIn (nD w) (.list (ns.map nD))=some (.bool (!decide (w∈ns))):=by
 unfold dNotIn;rw[agH]
 rfl
theorem adQ {w:List Nat}(h:w.length<=100000):dLen (nD w)=some (.int w.length):=by
 rw[alV (by rw[mj,PySem.sizeLine_eq];omega),mj]
theorem aa7 {a b:List Nat}(h:a.length+b.length<=100000):dAdd (nD a) (nD b)=some (.d (nD (a++b))):=by
 show dAdd (.str (sOf a)) (.str (sOf b))=_;rw[aaN,if_pos (by rw[mj,mj,PySem.sizeLine_eq];omega),ajF]
theorem ahQ {w:List Nat}{k:Int}(h:0<=k):L2.cutS (sOf w) none (some k)=sOf (w.take k.toNat):=by
 unfold L2.cutS;rw[mj,sE]
 have e:HT.sIx w.length 0 none=0:=rfl
 have e2:HT.sIx w.length w.length (some k)=min k.toNat w.length:=by
  show(if k < 0 then(k+w.length).toNat else min k.toNat w.length)=_;rw[if_neg (by omega)]
 rw[e,e2,List.drop_zero,Nat.sub_zero];unfold sOf
 congr 1
 congr 1
 by_cases hk:k.toNat<=w.length
 ·rw[Nat.min_eq_left hk]
 ·rw[Nat.min_eq_right (by omega),List.take_length,List.take_of_length_le (by omega)]
theorem pZ {w:List Nat}{k:Int}(h:0<=k):L2.cutS (sOf w) (some k) none=sOf (w.drop k.toNat):=by
 unfold L2.cutS;rw[mj,sE]
 have e:HT.sIx w.length w.length none=w.length:=rfl
 have e2:HT.sIx w.length 0 (some k)=min k.toNat w.length:=by
  show(if k < 0 then(k+w.length).toNat else min k.toNat w.length)=_;rw[if_neg (by omega)]
 rw[e,e2];unfold sOf
 congr 1
 congr 1
 by_cases hk:k.toNat<=w.length
 ·rw[Nat.min_eq_left hk,List.take_of_length_le (by rw[List.length_drop];omega)]
 ·rw[Nat.min_eq_right (by omega),Nat.sub_self,List.take_zero,List.drop_of_length_le (by omega)]
theorem adR {w:List Nat}{k:Int}(h:0<=k)(hl:w.length<=100000):dSl (nD w) none (some k)=some (.d (nD (w.take k.toNat))):=by
 rw[alW none (some k) (by rw[mj,PySem.sizeLine_eq];omega),ahQ h]
theorem agI {w:List Nat}{k:Int}(h:0<=k)(hl:w.length<=100000):dSl (nD w) (some k) none=some (.d (nD (w.drop k.toNat))):=by
 rw[alW (some k) none (by rw[mj,PySem.sizeLine_eq];omega),pZ h]
theorem vo (lo:Int)(m:Nat):intsD lo (m+1)=.int lo::intsD (lo+1) m:=by
 unfold intsD;rw[List.range_succ_eq_map,List.map_cons,List.map_map]
 congr 1
 ·simp
 ·apply List.map_congr_left
  intro a _;show PyData.int (lo+((a+1:Nat):Int))=PyData.int (lo+1+(a:Int))
  congr 1
  omega
theorem lA {α:Type}[DecidableEq α]:∀ (l ns:List α),l.Nodup->(∀ x∈l,x∈ns)->l.length<=ns.length
 | [],ns,_,_=>Nat.zero_le _
 | x::l,ns,nd,h=>by
  obtain⟨h1,h2⟩:=List.nodup_cons.mp nd
  have hx:x∈ns:=h x List.mem_cons_self
  have ih:=lA l (ns.erase x) h2 λ y hy=>(List.mem_erase_of_ne (λ z=>h1 (by rw[←z];exact hy))).mpr (h y (List.mem_cons_of_mem _ hy))
  rw[List.length_erase_of_mem hx]at ih
  have:0 < ns.length:=List.length_pos_of_mem hx
  rw[List.length_cons]
  omega
def cand (stem:List Nat)(t:Nat):List Nat:=stem++[97+t % 26,97+t / 26]
def tried (w stem:List Nat):Nat->List Nat
 | 0=>w
 | t+1=>cand stem t
theorem agJ {stem:List Nat}{a b:Nat}(h:cand stem a=cand stem b):a=b:=by
 have h':=List.append_cancel_left h
 injection h' with h1 h2
 injection h2 with h2 _
 omega
theorem yC (ns:List (List Nat))(w stem:List Nat)(hs:stem.length<=10)(hw:w.length<=12):∀ (k t:Nat) (o:Option S),t+k<=600->(∃ t' L,t<=t'/\t' < t+k /\
   forGo (fName 4) (gSeq (gIf (gB (gOp dNotIn (gPeek 1) (gPeek 0))) (gRet (gMove 1)) gNext) (gAsg 1 (gOp dAdd (gFz (gOp dAdd (gVar 3) (gIxP 2 (gOp dMod (gVar 4) (gC (.int 26)))))) (gIxP 2 (gOp dDiv (gVar 4) (gC (.int 26)))))))
    (intsD t k) [some (.ol (ns.map nD)),some (.d (nD (tried w stem t))),some (.d (.str abc)),some (.d (nD stem)),o]=.ok (.rt (.d (nD (tried w stem t')))) (some (.ol (ns.map nD))::some (.d (nD (tried w stem t')))::L)/\tried w stem t'∉ns) ∨
  ((∀ j,t<=j->j < t+k->tried w stem j∈ns)/\∃ o',forGo (fName 4) (gSeq (gIf (gB (gOp dNotIn (gPeek 1) (gPeek 0))) (gRet (gMove 1)) gNext) (gAsg 1 (gOp dAdd (gFz (gOp dAdd (gVar 3) (gIxP 2 (gOp dMod (gVar 4) (gC (.int 26)))))) (gIxP 2 (gOp dDiv (gVar 4) (gC (.int 26)))))))
    (intsD t k) [some (.ol (ns.map nD)),some (.d (nD (tried w stem t))),some (.d (.str abc)),some (.d (nD stem)),o]=.ok .nx [some (.ol (ns.map nD)),some (.d (nD (tried w stem (t+k)))),some (.d (.str abc)),some (.d (nD stem)),o'])
 | 0,t,o,_=>.inr ⟨λ j h1 h2=>by omega,o,rfl⟩
 | k+1,t,o,hk=>by
  rw[vo,nY (L1:=[some (.ol (ns.map nD)),some (.d (nD (tried w stem t))),some (.d (.str abc)),some (.d (nD stem)),some (.d (.int t))]) _ _ _ _ rfl]
  by_cases hin:tried w stem t∈ns
  ·have e1:(t:Int) % 26=((t % 26:Nat):Int):=by omega
   have e2:(t:Int) / 26=((t / 26:Nat):Int):=by omega
   have step:gSeq (gIf (gB (gOp dNotIn (gPeek 1) (gPeek 0))) (gRet (gMove 1)) gNext) (gAsg 1 (gOp dAdd (gFz (gOp dAdd (gVar 3) (gIxP 2 (gOp dMod (gVar 4) (gC (.int 26)))))) (gIxP 2 (gOp dDiv (gVar 4) (gC (.int 26))))))
     [some (.ol (ns.map nD)),some (.d (nD (tried w stem t))),some (.d (.str abc)),some (.d (nD stem)),some (.d (.int t))]=.ok .nx [some (.ol (ns.map nD)),some (.d (nD (tried w stem (t+1)))),some (.d (.str abc)),some (.d (nD stem)),some (.d (.int t))]:=by
    simp only[VS.evs,Nat.reduceAdd,Nat.reduceLT,Nat.reduceLeDiff,Nat.reduceSub,Nat.reduceEqDiff,tR,hin,lV (show(0:Int) < 26 by decide),wu (show(0:Int) < 26 by decide) (show(26:Int) < 1073741824 by decide)]
    rw[adN (r:=(t:Int) % 26) (by omega) (by omega)]
    simp only[VS.evs,Nat.reduceAdd,Nat.reduceLT,Nat.reduceLeDiff,Nat.reduceSub,Nat.reduceEqDiff]
    rw[aa7 (a:=stem) (b:=[97+((t:Int) % 26).toNat]) (by simp;omega)]
    simp only[VS.evs,Nat.reduceAdd,Nat.reduceLT,Nat.reduceLeDiff,Nat.reduceSub,Nat.reduceEqDiff,lV (show(0:Int) < 26 by decide),wu (show(0:Int) < 26 by decide) (show(26:Int) < 1073741824 by decide)]
    rw[adN (r:=(t:Int) / 26) (by omega) (by omega)]
    simp only[VS.evs,Nat.reduceAdd,Nat.reduceLT,Nat.reduceLeDiff,Nat.reduceSub,Nat.reduceEqDiff]
    rw[aa7 (a:=stem++[97+((t:Int) % 26).toNat]) (b:=[97+((t:Int) / 26).toNat]) (by simp;omega)]
    simp only[VS.evs,Nat.reduceAdd,Nat.reduceLT,Nat.reduceLeDiff,Nat.reduceSub,Nat.reduceEqDiff]
    rw[e1,e2,Int.toNat_natCast,Int.toNat_natCast,List.append_assoc]
    rfl
   rw[step,pX];rcases yC ns w stem hs hw k (t+1) (some (.d (.int t))) (by omega) with ⟨t',L,h1,h2,h3,h4⟩ | ⟨h1,o',h2⟩
   ·exact .inl ⟨t',L,by omega,by omega,h3,h4⟩
   ·refine .inr ⟨λ j h3 h4=>?_,o',?_⟩
    ·by_cases hj:j=t
     ·rw[hj];exact hin
     ·exact h1 j (by omega) (by omega)
    ·have e:t+1+k=t+(k+1):=by omega
     rw[e]at h2;exact h2
  ·refine .inl ⟨t,[some (.d (.str abc)),some (.d (nD stem)),some (.d (.int t))],Nat.le_refl t,by omega,?_,hin⟩
   have step:gSeq (gIf (gB (gOp dNotIn (gPeek 1) (gPeek 0))) (gRet (gMove 1)) gNext) (gAsg 1 (gOp dAdd (gFz (gOp dAdd (gVar 3) (gIxP 2 (gOp dMod (gVar 4) (gC (.int 26)))))) (gIxP 2 (gOp dDiv (gVar 4) (gC (.int 26))))))
     [some (.ol (ns.map nD)),some (.d (nD (tried w stem t))),some (.d (.str abc)),some (.d (nD stem)),some (.d (.int t))]=.ok (.rt (.d (nD (tried w stem t)))) [some (.ol (ns.map nD)),some (.d (nD (tried w stem t))),some (.d (.str abc)),some (.d (nD stem)),some (.d (.int t))]:=by
    simp only[VS.evs,Nat.reduceAdd,Nat.reduceLT,Nat.reduceLeDiff,Nat.reduceSub,Nat.reduceEqDiff,tR,hin]
   rw[step,wk]
theorem vp {w:List Nat}(hw:Good w){t:Nat}(ht:t<=600):Good (tried w (w.take 10) t):=by
 cases t with
 | zero=>exact hw
 | succ t =>
  refine⟨(hw.1.take 10).app λ c hc=>?_,?_,?_⟩
  ·rcases List.mem_cons.mp hc with rfl | hc
   ·omega
   ·rw[List.mem_singleton]at hc
    omega
  ·show 1<=(w.take 10++_).length;rw[List.length_append]
   simp
  ·show(w.take 10++_).length<=12;rw[List.length_append,List.length_take]
   simp
   omega
theorem abQ (ns:List (List Nat))(w:List Nat)(hw:w.length<=12)(X:LS->R O):runDef Q0 5 (gSeq (gAsg 2 (gD (gC (.str abc)))) (gSeq (gAsg 3 (gSl (gPeek 1) gNo (gSo (gC (.int 10))))) X)) [some (.ol (ns.map nD)),some (.d (nD w))]=endOf Q0 (X [some (.ol (ns.map nD)),some (.d (nD w)),some (.d (.str abc)),some (.d (nD (w.take 10))),none]):=by
 have h10:dSl (nD w) none (some 10)=some (.d (nD (w.take 10))):=adR (by decide) (by omega)
 simp only[VS.evs,Nat.reduceAdd,Nat.reduceLT,Nat.reduceLeDiff,Nat.reduceSub,Nat.reduceEqDiff,h10]
theorem agK (ns:List D)(o p q r:Option S):gFz (gOp dAdd (gUn dLen (gPeek 0)) (gC (.int 1))) [some (.ol ns),o,p,q,r]=.ok (.int ((ns.length:Int)+1)) [some (.ol ns),o,p,q,r]:=by
 simp only[VS.evs,Nat.reduceAdd,Nat.reduceLT,Nat.reduceLeDiff,Nat.reduceSub,Nat.reduceEqDiff]
theorem agL (ns:List D)(o p q r:Option S):(gCons (gFz (gOp dAdd (gUn dLen (gPeek 0)) (gC (.int 1)))) gNil [some (.ol ns),o,p,q,r])=.ok [.int ((ns.length:Int)+1)] [some (.ol ns),o,p,q,r]:=by
 rw[acT,agK]
 rfl
theorem ajH (ns:List D)(hn:ns.length<=500)(o p q r:Option S):(gCons (gFz (gOp dAdd (gUn dLen (gPeek 0)) (gC (.int 1)))) gNil [some (.ol ns),o,p,q,r]).bind abC=.ok (intsD 0 ((ns.length:Int)+1).toNat) [some (.ol ns),o,p,q,r]:=by
 rw[agL,zU,aad (by omega) (by omega)]
theorem abR (ns:List (List Nat))(w st:List Nat)(hn:ns.length<=500):(gCons (gFz (gOp dAdd (gUn dLen (gPeek 0)) (gC (.int 1)))) gNil [some (.ol (ns.map nD)),some (.d (nD w)),some (.d (.str abc)),some (.d (nD st)),none]).bind abC=.ok (intsD 0 (ns.length+1)) [some (.ol (ns.map nD)),some (.d (nD w)),some (.d (.str abc)),some (.d (nD st)),none]:=by
 rw[ajH _ (by rw[List.length_map];exact hn),List.length_map,show((ns.length:Int)+1).toNat=ns.length+1 by omega]
theorem adS {ns:List (List Nat)}{w:List Nat}(hn:ns.length<=500)(hw:Good w):∃ w',fK [some (.ol (ns.map nD)),some (.d (nD w))]=.ok (.d (nD w')) [some (.ol (ns.map nD)),none]/\Good w'/\w'∉ns:=by
 have hs:(w.take 10).length<=10:=by rw[List.length_take];omega
 unfold fK rD;rw[abQ ns w hw.2.2,iy,aaX,abR ns w (w.take 10) hn,wj];rcases yC ns w (w.take 10) hs hw.2.2 (ns.length+1) 0 none (by omega) with ⟨t',L,h1,h2,h3,h4⟩ | ⟨h1,o',h2⟩
 ·have h3':=h3
  rw[show tried w (w.take 10) 0=w from rfl]at h3';rw[show((0:Nat):Int)=0 from rfl]at h3';rw[h3',acO];exact⟨tried w (w.take 10) t',rfl,vp hw (by omega),h4⟩
 ·have h2':=h2
  rw[show tried w (w.take 10) 0=w from rfl]at h2';rw[show((0:Nat):Int)=0 from rfl]at h2';rw[h2',d9];refine⟨tried w (w.take 10) (0+(ns.length+1)),rfl,vp hw (by omega),λ hin=>?_⟩
  have nd:((List.range (ns.length+1)).map (cand (w.take 10))).Nodup:=by
   rw[List.nodup_iff_pairwise_ne,List.pairwise_map];exact(List.nodup_iff_pairwise_ne.mp List.nodup_range).imp λ h z=>h (agJ z)
  have:=lA _ ns nd λ x hx=>by
   obtain⟨t,ht,rfl⟩:=List.mem_map.mp hx
   have ht':=List.mem_range.mp ht
   by_cases e:t=ns.length
   ·subst e
    rw[Nat.zero_add]at hin;exact hin
   ·exact h1 (t+1) (by omega) (by omega)
  rw[List.length_map,List.length_range]at this
  omega
theorem adT {st x:List Nat}{a:Nat}(hs:Small st)(hx:Small x)(h:a < st.length)(hl:x.length=1)(hle:st.length<=12):Good (st.take a++x++st.drop (a+1)):=by
 refine⟨((hs.take a).app hx).app (hs.drop (a+1)),?_,?_⟩
 ·rw[List.length_append,List.length_append,List.length_take,List.length_drop,hl];omega
 ·rw[List.length_append,List.length_append,List.length_take,List.length_drop,hl];omega
abbrev qd:LS->R O:=(gSeq (gAsg 7 (gOp dAdd (gFz (gOp dAdd (gFz (gSl (gPeek 3) gNo (gSo (gVar 4)))) (gFz (gCall bR [.r 0,.d (gC (.int 1))])))) (gFz (gSl (gPeek 3) (gSo (gFz (gOp dAdd (gVar 4) (gC (.int 1))))) gNo))))
  (gSeq (gIf (gB (gOp dEq (gPeek 2) (gC (.int 1)))) (gAsg 7 (gSl (gVar 3) gNo (gSo (gFz (gOp dAdd (gC (.int 1)) (gFz (gCall ao [.r 0,.d (gUn dLen (gPeek 3))]))))))) gNext)
  (gSeq (gIf (gB (gOp dEq (gPeek 2) (gC (.int 2)))) (gAsg 7 (gCall bR [.r 0,.d (gFz (gOp dAdd (gC (.int 1)) (gFz (gCall ao [.r 0,.d (gC (.int 12))]))))])) gNext)
  (gDrop (gApp 5 (gFz (gCall fK [.r 5,.d (gVar 7)])))))))
theorem abS {many style:Int}{st:List Nat}{a:Nat}(hst:Small st)(ha:a < st.length)(hle:st.length<=11){s:S}(hs:Src s){ns:List (List Nat)}(hn:ns.length<=500)(o6 o7:Option S) :
  ∃ w' s' o7',qd [some s,some (.d (.int many)),some (.d (.int style)),some (.d (nD st)),some (.d (.int a)),some (.ol (ns.map nD)),o6,o7]
   = .ok .nx [some s',some (.d (.int many)),some (.d (.int style)),some (.d (nD st)),some (.d (.int a)),some (.ol ((ns++[w']).map nD)),o6,o7']/\Good w'/\w'∉ns/\Src s':=by
 obtain⟨x,s1,e1,l1,k1,hs1⟩:=aaf hs (m:=1) (by decide) (by decide)
 have l1':x.length=1:=l1
 have hmix:=adT hst k1 ha l1' (by omega)
 have c1:dSl (nD st) none (some (a:Int))=some (.d (nD (st.take a))):=adR (by omega) (by omega)
 have c2:dSl (nD st) (some ((a:Int)+1)) none=some (.d (nD (st.drop (a+1)))):=agI (k:=(a:Int)+1) (by omega) (by omega)
 have a1:dAdd (nD (st.take a)) (nD x)=some (.d (nD (st.take a++x))):=aa7 (by rw[List.length_take];omega)
 have a2:dAdd (nD (st.take a++x)) (nD (st.drop (a+1)))=some (.d (nD (st.take a++x++st.drop (a+1)))):=aa7 (by rw[List.length_append,List.length_take,List.length_drop];omega)
 have fin:∀ (w:List Nat) (s:S),Good w->Src s->∃ w',(gDrop (gApp 5 (gFz (gCall fK [.r 5,.d (gVar 7)])))) [some s,some (.d (.int many)),some (.d (.int style)),some (.d (nD st)),some (.d (.int a)),some (.ol (ns.map nD)),o6,some (.d (nD w))]
   = .ok .nx [some s,some (.d (.int many)),some (.d (.int style)),some (.d (nD st)),some (.d (.int a)),some (.ol ((ns++[w']).map nD)),o6,some (.d (nD w))]/\Good w'/\w'∉ns:=λ w s hw hs=>by
  obtain⟨w',e,g,ni⟩:=adS hn hw;refine⟨w',?_,g,ni⟩
  have hz:(ns.map nD).length < sizeLine:=by rw[List.length_map,PySem.sizeLine_eq];omega
  simp only[VS.evs,Nat.reduceAdd,Nat.reduceLT,Nat.reduceLeDiff,Nat.reduceSub,Nat.reduceEqDiff,e,hz]
  rw[List.map_append]
  rfl
 have s0:gAsg 7 (gOp dAdd (gFz (gOp dAdd (gFz (gSl (gPeek 3) gNo (gSo (gVar 4)))) (gFz (gCall bR [.r 0,.d (gC (.int 1))])))) (gFz (gSl (gPeek 3) (gSo (gFz (gOp dAdd (gVar 4) (gC (.int 1))))) gNo))) [some s,some (.d (.int many)),some (.d (.int style)),some (.d (nD st)),some (.d (.int a)),some (.ol (ns.map nD)),o6,o7]
   = .ok .nx [some s1,some (.d (.int many)),some (.d (.int style)),some (.d (nD st)),some (.d (.int a)),some (.ol (ns.map nD)),o6,some (.d (nD (st.take a++x++st.drop (a+1))))]:=by
  simp only[VS.evs,Nat.reduceAdd,Nat.reduceLT,Nat.reduceLeDiff,Nat.reduceSub,Nat.reduceEqDiff,c1,e1,c2,a1,a2]
 unfold qd;rw[iy,s0,d9]
 by_cases h1:style=1
 ·subst h1
  obtain⟨r,s2,e2,r0,r1,hs2⟩:=o9 hs1 (n:=st.length) (by omega) (by omega)
  have c3:dSl (nD st) none (some (1+r))=some (.d (nD (st.take (1+r).toNat))):=adR (by omega) (by omega)
  have hg:Good (st.take (1+r).toNat):=⟨hst.take _,by rw[List.length_take];omega,by rw[List.length_take];omega⟩
  obtain⟨w',f1,f2,f3⟩:=fin _ s2 hg hs2;refine⟨w',s2,some (.d (nD (st.take (1+r).toNat))),?_,f2,f3,hs2⟩
  have hl:dLen (nD st)=some (.int st.length):=adQ (by omega)
  have s1':gIf (gB (gOp dEq (gPeek 2) (gC (.int 1)))) (gAsg 7 (gSl (gVar 3) gNo (gSo (gFz (gOp dAdd (gC (.int 1)) (gFz (gCall ao [.r 0,.d (gUn dLen (gPeek 3))]))))))) gNext [some s1,some (.d (.int many)),some (.d (.int 1)),some (.d (nD st)),some (.d (.int a)),some (.ol (ns.map nD)),o6,some (.d (nD (st.take a++x++st.drop (a+1))))]
    = .ok .nx [some s2,some (.d (.int many)),some (.d (.int 1)),some (.d (nD st)),some (.d (.int a)),some (.ol (ns.map nD)),o6,some (.d (nD (st.take (1+r).toNat)))]:=by
   simp only[VS.evs,Nat.reduceAdd,Nat.reduceLT,Nat.reduceLeDiff,Nat.reduceSub,Nat.reduceEqDiff,hl,e2,c3]
  have s2':gIf (gB (gOp dEq (gPeek 2) (gC (.int 2)))) (gAsg 7 (gCall bR [.r 0,.d (gFz (gOp dAdd (gC (.int 1)) (gFz (gCall ao [.r 0,.d (gC (.int 12))]))))])) gNext [some s2,some (.d (.int many)),some (.d (.int 1)),some (.d (nD st)),some (.d (.int a)),some (.ol (ns.map nD)),o6,some (.d (nD (st.take (1+r).toNat)))]
    = .ok .nx [some s2,some (.d (.int many)),some (.d (.int 1)),some (.d (nD st)),some (.d (.int a)),some (.ol (ns.map nD)),o6,some (.d (nD (st.take (1+r).toNat)))]:=rfl
  rw[iy,s1',d9,iy,s2',d9,f1]
 ·have s1':gIf (gB (gOp dEq (gPeek 2) (gC (.int 1)))) (gAsg 7 (gSl (gVar 3) gNo (gSo (gFz (gOp dAdd (gC (.int 1)) (gFz (gCall ao [.r 0,.d (gUn dLen (gPeek 3))]))))))) gNext [some s1,some (.d (.int many)),some (.d (.int style)),some (.d (nD st)),some (.d (.int a)),some (.ol (ns.map nD)),o6,some (.d (nD (st.take a++x++st.drop (a+1))))]
    = .ok .nx [some s1,some (.d (.int many)),some (.d (.int style)),some (.d (nD st)),some (.d (.int a)),some (.ol (ns.map nD)),o6,some (.d (nD (st.take a++x++st.drop (a+1))))]:=by
   simp only[VS.evs,Nat.reduceAdd,Nat.reduceLT,Nat.reduceLeDiff,Nat.reduceSub,Nat.reduceEqDiff,h1]
  rw[iy,s1',d9]
  by_cases h2:style=2
  ·subst h2
   obtain⟨r,s2,e2,r0,r1,hs2⟩:=o9 hs1 (n:=12) (by omega) (by omega);obtain⟨y,s3,e3,l3,k3,hs3⟩:=aaf hs2 (m:=1+r) (by omega) (by omega);obtain⟨w',f1,f2,f3⟩:=fin y s3 ⟨k3,by omega,by omega⟩ hs3;refine⟨w',s3,some (.d (nD y)),?_,f2,f3,hs3⟩
   have s2':gIf (gB (gOp dEq (gPeek 2) (gC (.int 2)))) (gAsg 7 (gCall bR [.r 0,.d (gFz (gOp dAdd (gC (.int 1)) (gFz (gCall ao [.r 0,.d (gC (.int 12))]))))])) gNext [some s1,some (.d (.int many)),some (.d (.int 2)),some (.d (nD st)),some (.d (.int a)),some (.ol (ns.map nD)),o6,some (.d (nD (st.take a++x++st.drop (a+1))))]
     = .ok .nx [some s3,some (.d (.int many)),some (.d (.int 2)),some (.d (nD st)),some (.d (.int a)),some (.ol (ns.map nD)),o6,some (.d (nD y))]:=by
    simp only[VS.evs,Nat.reduceAdd,Nat.reduceLT,Nat.reduceLeDiff,Nat.reduceSub,Nat.reduceEqDiff,e2,e3]
   rw[iy,s2',d9,f1]
  ·obtain⟨w',f1,f2,f3⟩:=fin _ s1 hmix hs1;refine⟨w',s1,some (.d (nD (st.take a++x++st.drop (a+1)))),?_,f2,f3,hs1⟩
   have s2':gIf (gB (gOp dEq (gPeek 2) (gC (.int 2)))) (gAsg 7 (gCall bR [.r 0,.d (gFz (gOp dAdd (gC (.int 1)) (gFz (gCall ao [.r 0,.d (gC (.int 12))]))))])) gNext [some s1,some (.d (.int many)),some (.d (.int style)),some (.d (nD st)),some (.d (.int a)),some (.ol (ns.map nD)),o6,some (.d (nD (st.take a++x++st.drop (a+1))))]
     = .ok .nx [some s1,some (.d (.int many)),some (.d (.int style)),some (.d (nD st)),some (.d (.int a)),some (.ol (ns.map nD)),o6,some (.d (nD (st.take a++x++st.drop (a+1))))]:=by
    simp only[VS.evs,Nat.reduceAdd,Nat.reduceLT,Nat.reduceLeDiff,Nat.reduceSub,Nat.reduceEqDiff,h2]
   rw[iy,s2',d9,f1]
theorem aa8 {many style:Int}{st:List Nat}{a:Nat}(hst:Small st)(ha:a < st.length)(hle:st.length<=11):∀ (k:Nat) (lo:Int) {s:S} (hs:Src s) {ns:List (List Nat)} (hn:ns.length+k<=500) (hd:ns.Nodup) (hg:∀ n∈ns,Good n) (o6 o7:Option S),
  ∃ (ns':List (List Nat)) (s':S) (o6' o7':Option S),forGo (fName 6) qd (intsD lo k) [some s,some (.d (.int many)),some (.d (.int style)),some (.d (nD st)),some (.d (.int a)),some (.ol (ns.map nD)),o6,o7]
   = .ok .nx [some s',some (.d (.int many)),some (.d (.int style)),some (.d (nD st)),some (.d (.int a)),some (.ol (ns'.map nD)),o6',o7']/\ns'.length=ns.length+k/\ns'.Nodup/\(∀ n∈ns',Good n)/\Src s'
 | 0,lo,s,hs,ns,hn,hd,hg,o6,o7=>⟨ns,s,o6,o7,rfl,rfl,hd,hg,hs⟩
 | k+1,lo,s,hs,ns,hn,hd,hg,o6,o7=>by
  obtain⟨w',s1,o7',e,g,ni,hs1⟩:=abS (many:=many) (style:=style) hst ha hle hs (ns:=ns) (by omega) (some (.d (.int lo))) o7
  obtain⟨ns',s',o6',o7'',e2,l2,d2,g2,hs2⟩:=aa8 (many:=many) (style:=style) hst ha hle k (lo+1) hs1 (ns:=ns++[w']) (by rw[List.length_append,List.length_singleton];omega)
   (by
    rw[List.nodup_append];refine⟨hd,List.nodup_cons.mpr ⟨List.not_mem_nil,List.nodup_nil⟩,λ x hx y hy z=>?_⟩;rw[List.mem_singleton]at hy
    subst hy
    subst z
    exact ni hx)
   (λ n hn=>by
    rcases List.mem_append.mp hn with h | h
    ·exact hg n h
    ·rw[List.mem_singleton]at h;rw[h]
     exact g) (some (.d (.int lo))) o7'
  refine⟨ns',s',o6',o7'',?_,by rw[l2,List.length_append,List.length_singleton];omega,d2,g2,hs2⟩;rw[vo,nY (L1:=[some s,some (.d (.int many)),some (.d (.int style)),some (.d (nD st)),some (.d (.int a)),some (.ol (ns.map nD)),some (.d (.int lo)),o7]) _ _ _ _ rfl,e,pX,e2]
theorem agM {s:S}(hs:Src s){many:Int}(h0:0<=many)(h1:many<=500):∃ (ns:List (List Nat)) (s':S),ie [some s,some (.d (.int many))]=.ok (.ol (ns.map nD)) [some s',none]/\ns.length=many.toNat/\ns.Nodup/\(∀ n∈ns,Good n)/\Src s':=by
 obtain⟨style,s1,e1,_,_,hs1⟩:=o9 hs (n:=3) (by omega) (by omega);obtain⟨r,s2,e2,r0,r1,hs2⟩:=o9 hs1 (n:=11) (by omega) (by omega);obtain⟨st,s3,e3,l3,k3,hs3⟩:=aaf hs2 (m:=1+r) (by omega) (by omega);obtain⟨a,s4,e4,a0,a1,hs4⟩:=o9 hs3 (n:=st.length) (by omega) (by omega);obtain⟨j,rfl⟩:=Int.eq_ofNat_of_zero_le a0;obtain⟨ns,s',o6,o7,e5,l5,d5,g5,hs5⟩:=aa8 (many:=many) (style:=style) (a:=j) k3 (by omega) (by omega) many.toNat 0 hs4 (ns:=[]) (by simp;omega) List.nodup_nil (λ n hn=>by cases hn) none none;refine⟨ns,s',?_,by rw[l5];simp,d5,g5,hs5⟩
 have hl:dLen (nD st)=some (.int st.length):=adQ (by omega)
 unfold ie tO
 have pre:∀ X:LS->R O,runDef Q0 8 (gSeq (gAsg 2 (gCall ao [.r 0,.d (gC (.int 3))]))
  (gSeq (gAsg 3 (gCall bR [.r 0,.d (gFz (gOp dAdd (gC (.int 1)) (gFz (gCall ao [.r 0,.d (gC (.int 11))]))))]))
  (gSeq (gAsg 4 (gCall ao [.r 0,.d (gUn dLen (gPeek 3))]))
  (gSeq (gAsg 5 (gLst gNil)) X)))) [some s,some (.d (.int many))]=endOf Q0 (X [some s4,some (.d (.int many)),some (.d (.int style)),some (.d (nD st)),some (.d (.int j)),some (.ol []),none,none]):=λ X=>by
  simp only[VS.evs,Nat.reduceAdd,Nat.reduceLT,Nat.reduceLeDiff,Nat.reduceSub,Nat.reduceEqDiff,e1,e2,e3,hl,e4,yc (show 0<=1000000 by decide)]
 have hr:(gCons (gVar 1) gNil [some s4,some (.d (.int many)),some (.d (.int style)),some (.d (nD st)),some (.d (.int j)),some (.ol []),none,none]).bind abC=.ok (intsD 0 many.toNat) [some s4,some (.d (.int many)),some (.d (.int style)),some (.d (nD st)),some (.d (.int j)),some (.ol []),none,none]:=by
  have e:gCons (gVar 1) gNil [some s4,some (.d (.int many)),some (.d (.int style)),some (.d (nD st)),some (.d (.int j)),some (.ol []),none,none]=.ok [.int many] [some s4,some (.d (.int many)),some (.d (.int style)),some (.d (nD st)),some (.d (.int j)),some (.ol []),none,none]:=rfl
  rw[e,zU,aad h0 (by omega)]
 rw[pre,iy,aaX,hr,wj]
 have e5':=e5
 unfold qd at e5';rw[List.map_nil]at e5';rw[e5',d9]
 rfl
theorem ajI (k:Nat):k∈abc.cps.toList↔97<=k/\k<=122:=by
 constructor
 ·intro h;obtain⟨i,hi,e⟩:=List.mem_iff_getElem.mp h;rw[aac]at hi
  have:=adM i (List.mem_range.mpr hi)
  rw[List.getElem?_eq_getElem (by rw[aac];exact hi),e]at this
  have:=Option.some.inj this
  omega
 ·intro h
  have:=adM (k - 97) (List.mem_range.mpr (by omega))
  have e:97+(k - 97)=k:=by omega
  rw[e]at this;exact List.mem_of_getElem? this
def smallB (c:Nat):Bool:=decide (97<=c/\c<=122)
def isN (w:List Nat):Bool:=decide (1<=w.length/\w.length<=12)&&w.all smallB
theorem sG {w:List Nat}(h:Good w):isN w=true:=by
 unfold isN;rw[Bool.and_eq_true,List.all_eq_true];exact⟨decide_eq_true ⟨h.2.1,h.2.2⟩,λ c hc=>decide_eq_true (h.1 c hc)⟩
theorem adU (c:Nat):dNotIn (.str ⟨#[c]⟩) (.str abc)=some (.bool (!smallB c)):=by
 have e:dInB (.str ⟨#[c]⟩) (.str abc)=some (decide (c∈abc.cps.toList)):=rfl
 unfold dNotIn;rw[e];unfold smallB;rw[decide_eq_decide.mpr (ajI c)]
 rfl
theorem adV (w:List Nat):signs (sOf w)=w.map λ c=>PyData.str ⟨#[c]⟩:=by
 unfold signs;rw[sE]
theorem vq:∀ (w:List Nat) (t:D) (o:Option S),∃ o',forGo (fName 1) (gIf (gB (gOp dNotIn (gPeek 1) (gC (.str abc)))) (gRet (gD (gC (.bool false)))) gNext) (w.map λ c=>PyData.str ⟨#[c]⟩) [some (.d t),o]
  = if w.all smallB then .ok .nx [some (.d t),o'] else .ok (.rt (.d (.bool false))) [some (.d t),o']
 | [],t,o=>⟨o,rfl⟩
 | c::w,t,o=>by
  obtain⟨o',e⟩:=vq w t (some (.d (.str ⟨#[c]⟩)));rw[List.map_cons,nY (L1:=[some (.d t),some (.d (.str ⟨#[c]⟩))]) _ _ _ _ rfl]
  by_cases h:smallB c=true
  ·refine⟨o',?_⟩
   have step:gIf (gB (gOp dNotIn (gPeek 1) (gC (.str abc)))) (gRet (gD (gC (.bool false)))) gNext [some (.d t),some (.d (.str ⟨#[c]⟩))]=.ok .nx [some (.d t),some (.d (.str ⟨#[c]⟩))]:=by
    simp only[VS.evs,Nat.reduceAdd,Nat.reduceLT,Nat.reduceLeDiff,Nat.reduceSub,Nat.reduceEqDiff,adU,h]
   rw[step,pX,e,List.all_cons,h,Bool.true_and]
  ·refine⟨some (.d (.str ⟨#[c]⟩)),?_⟩
   have h':smallB c=false:=by simpa using h
   have step:gIf (gB (gOp dNotIn (gPeek 1) (gC (.str abc)))) (gRet (gD (gC (.bool false)))) gNext [some (.d t),some (.d (.str ⟨#[c]⟩))]=.ok (.rt (.d (.bool false))) [some (.d t),some (.d (.str ⟨#[c]⟩))]:=by
    simp only[VS.evs,Nat.reduceAdd,Nat.reduceLT,Nat.reduceLeDiff,Nat.reduceSub,Nat.reduceEqDiff,adU,h']
   rw[step,wk,List.all_cons,h',Bool.false_and]
   rfl
theorem abT {w:List Nat}(h:w.length<=100000):lu [some (.d (.str (sOf w)))]=.ok (.d (.bool (isN w))) [none]:=by
 have hl:dLen (.str (sOf w))=some (.int w.length):=adQ h
 unfold lu yw
 by_cases hb:1<=w.length/\w.length<=12
 ·have h1:¬ ((w.length:Int) < 1):=by omega
  have h2:¬ ((12:Int) < (w.length:Int)):=by omega
  obtain⟨o',e⟩:=vq w (.str (sOf w)) none
  have hr:(gVar 0 [some (.d (.str (sOf w))),none]).bind fG=.ok (w.map λ c=>PyData.str ⟨#[c]⟩) [some (.d (.str (sOf w))),none]:=by
   simp only[VS.evs,Nat.reduceAdd,Nat.reduceLT,Nat.reduceLeDiff,Nat.reduceSub,Nat.reduceEqDiff,adV]
  have s0:∀ X:LS->R O,runDef [false] 2 (gSeq (gIf (gOr (gB (gOp dLt (gUn dLen (gPeek 0)) (gC (.int 1)))) (gB (gOp dGt (gUn dLen (gPeek 0)) (gC (.int 12))))) (gRet (gD (gC (.bool false)))) gNext) X) [some (.d (.str (sOf w)))]=endOf [false] (X [some (.d (.str (sOf w))),none]):=λ X=>by
   simp only[VS.evs,Nat.reduceAdd,Nat.reduceLT,Nat.reduceLeDiff,Nat.reduceSub,Nat.reduceEqDiff,hl,h1,h2]
  rw[s0,iy,aaX,hr,wj,e];unfold isN;rw[decide_eq_true hb,Bool.true_and]
  by_cases ha:w.all smallB=true
  ·rw[if_pos ha,ha]
   rfl
  ·have ha':w.all smallB=false:=by simpa using ha
   rw[if_neg ha,ha']
   rfl
 ·have hf:isN w=false:=by
   unfold isN;rw[decide_eq_false hb,Bool.false_and]
  rw[hf]
  by_cases h1:(w.length:Int) < 1
  ·simp only[VS.evs,Nat.reduceAdd,Nat.reduceLT,Nat.reduceLeDiff,Nat.reduceSub,Nat.reduceEqDiff,hl,h1]
  ·have h2:(12:Int) < (w.length:Int):=by omega
   simp only[VS.evs,Nat.reduceAdd,Nat.reduceLT,Nat.reduceLeDiff,Nat.reduceSub,Nat.reduceEqDiff,hl,h1,h2]
theorem ajJ (ns:List Int)(h:ns.length<=63):cutD (ns.map PyData.int) none (some 63)=ns.map PyData.int:=by
 unfold cutD
 have e:HT.sIx (ns.map PyData.int).length 0 none=0:=rfl
 have e2:HT.sIx (ns.map PyData.int).length (ns.map PyData.int).length (some 63)=min (63:Int).toNat (ns.map PyData.int).length:=rfl
 rw[e,e2,List.drop_zero,List.length_map,Nat.sub_zero,List.take_of_length_le];rw[List.length_map]
 have:(63:Int).toNat=63:=rfl
 omega
theorem amm {ns:List Int}(h:ns.length<=63):lw [some (.scr ns)]=.ok (srcS ns 0 0 1 0) [some (.scr ns)]:=by
 unfold lw yx
 simp only[VS.evs,Nat.reduceAdd,Nat.reduceLT,Nat.reduceLeDiff,Nat.reduceSub,Nat.reduceEqDiff,ajJ ns h,yc (show 0+1+1+1+1+1<=1000000 by decide)]
 rfl
theorem adW {ns:List Int}(h:ns.length<=63):Src (srcS ns 0 0 1 0):=⟨ns,0,0,1,0,rfl,h,by omega,by omega,by omega,by omega,by omega⟩
end Lw
namespace Lw
open PySem PySem.Spec PyProof.Rows L2 VS
def pq:LS->R O:=(gRet (gD (gAndV (gIsi "int" (gPeek 0)) (gUn dNot (gIsi "bool" (gPeek 0))))))
def ig:LS->R S:=runDef [false] 1 pq
def cH:Nat->LS->R S
 | 0=>λ _=>.stuck
 | k_+1=>runDef Q1 4 ((gSeq (gIf (gB (gOp dIs (gPeek 1) (gC .none))) (gRet (gD (gOp dIs (gPeek 0) (gC .none)))) gNext)
  (gSeq (gIf (gB (gIsi "bool" (gPeek 1))) (gRet (gD (gAndV (gIsi "bool" (gPeek 0)) (gOp dEq (gPeek 0) (gPeek 1))))) gNext)
  (gSeq (gIf (gB (gIsi "int" (gPeek 1))) (gRet (gD (gAndV (gFz (gCall Lw.ig [.d (gVar 0)])) (gOp dEq (gPeek 0) (gPeek 1))))) gNext)
  (gSeq (gIf (gB (gIsi "str" (gPeek 1))) (gRet (gD (gAndV (gIsi "str" (gPeek 0)) (gOp dEq (gPeek 0) (gPeek 1))))) gNext)
  (gSeq (gIf (gOr (gB (gOp dNe (gIsi "list" (gPeek 1)) (gIsi "list" (gPeek 0)))) (gB (gOp dNe (gIsi "tuple" (gPeek 1)) (gIsi "tuple" (gPeek 0))))) (gRet (gD (gC (.bool false)))) gNext)
  (gSeq (gIf (gB (gOp dNe (gUn dLen (gPeek 0)) (gUn dLen (gPeek 1)))) (gRet (gD (gC (.bool false)))) gNext)
  (gSeq (gFor (λ L=>((gCons (gVar 0) (gCons (gVar 1) gNil)) L).bind asZip) (fTup 2 (fCons (fName 2) (fCons (fName 3) fNil))) (gIf (gNot (gB (gFz (gCall (cH k_) [.d (gVar 2),.d (gVar 3)])))) (gRet (gD (gC (.bool false)))) gNext))
  (gRet (gD (gC (.bool true))))))))))))
end Lw
namespace Lw
open PySem VS
def Pl:Nat->D->Prop
 | 0,_=>False
 | k+1,d=>match d with
  | .none=>True
  | .bool _=>True
  | .int _=>True
  | .str _=>True
  | .list xs=>∀ x∈xs,Pl k x
  | .tuple xs=>∀ x∈xs,Pl k x
  | _=>False
theorem adX (i:Int):ig [some (.d (.int i))]=.ok (.d (.bool true)) [none]:=by
 unfold ig pq
 simp only[VS.evs,Nat.reduceAdd,Nat.reduceLT,Nat.reduceLeDiff,Nat.reduceSub,Nat.reduceEqDiff]
noncomputable def eqb (d e:D):Bool:=@decide (d=e) (Classical.propDecidable _)
theorem aag {d e:D}:eqb d e=true↔d=e:=by unfold eqb;exact @decide_eq_true_iff _ (Classical.propDecidable _)
theorem oh (d:D):eqb d d=true:=aag.mpr rfl
theorem jL {d e:D}(h:d≠e):eqb d e=false:=by
 cases z:eqb d e with
 | false=>rfl
 | true=>exact absurd (aag.mp z) h
theorem qj {d:D}(h:∀ i,d≠.int i)(h2:∀ i,d≠.dict i):ig [some (.d d)]=.ok (.d (.bool false)) [none]:=by
 unfold ig pq
 cases d with
 | int i=>exact absurd rfl (h i)
 | dict i=>exact absurd rfl (h2 i)
 | _=>simp only[VS.evs,Nat.reduceAdd,Nat.reduceLT,Nat.reduceLeDiff,Nat.reduceSub,Nat.reduceEqDiff]
theorem wC {m:LS->R S}{d0 d1:Option S}:∀ (zs:List (D×D)) (o2 o3:Option S),(∀ z∈zs,m [some (.d z.1),some (.d z.2)]=.ok (.d (.bool (eqb z.1 z.2))) [none,none]) ->
  ∃ o2' o3',forGo (fTup 2 (fCons (fName 2) (fCons (fName 3) fNil))) (gIf (gNot (gB (gFz (gCall m [.d (gVar 2),.d (gVar 3)])))) (gRet (gD (gC (.bool false)))) gNext) (zs.map λ z=>.tuple [z.1,z.2]) [d0,d1,o2,o3]=.ok (if(zs.all λ z=>eqb z.1 z.2)=true then .nx else .rt (.d (.bool false))) [d0,d1,o2',o3']
 | [],o2,o3,_=>⟨o2,o3,by rw[List.map_nil,ye];rfl⟩
 | z::zs,o2,o3,h=>by
  rw[List.map_cons,nY (L1:=[d0,d1,some (.d z.1),some (.d z.2)]) _ _ _ _ rfl,List.all_cons]
  have hx:=h z List.mem_cons_self
  cases hz:eqb z.1 z.2 with
  | true =>
   obtain⟨o2',o3',e⟩:=wC (m:=m) (d0:=d0) (d1:=d1) zs (some (.d z.1)) (some (.d z.2)) λ y hy=>h y (List.mem_cons_of_mem _ hy);refine⟨o2',o3',?_⟩;rw[hz]at hx
   have step:gIf (gNot (gB (gFz (gCall m [.d (gVar 2),.d (gVar 3)])))) (gRet (gD (gC (.bool false)))) gNext [d0,d1,some (.d z.1),some (.d z.2)]=.ok .nx [d0,d1,some (.d z.1),some (.d z.2)]:=by
    simp only[VS.evs,Nat.reduceAdd,Nat.reduceLT,Nat.reduceLeDiff,Nat.reduceSub,Nat.reduceEqDiff,hx]
   rw[step,pX,e,Bool.true_and]
  | false =>
   refine⟨some (.d z.1),some (.d z.2),?_⟩;rw[hz]at hx
   have step:gIf (gNot (gB (gFz (gCall m [.d (gVar 2),.d (gVar 3)])))) (gRet (gD (gC (.bool false)))) gNext [d0,d1,some (.d z.1),some (.d z.2)]=.ok (.rt (.d (.bool false))) [d0,d1,some (.d z.1),some (.d z.2)]:=by
    simp only[VS.evs,Nat.reduceAdd,Nat.reduceLT,Nat.reduceLeDiff,Nat.reduceSub,Nat.reduceEqDiff,hx]
   rw[step]
   rfl
theorem sH (xs ys:List D):zipD xs ys=(xs.zip ys).map λ z=>.tuple [z.1,z.2]:=rfl
theorem aah:∀ {xs ys:List D},xs.length=ys.length->(((xs.zip ys).all λ z=>eqb z.1 z.2)=true↔xs=ys)
 | [],[],_=>by simp
 | [],_::_,h=>by cases h
 | _::_,[],h=>by cases h
 | x::xs,y::ys,h=>by
  rw[List.zip_cons_cons,List.all_cons,Bool.and_eq_true,aag,aah (xs:=xs) (ys:=ys) (by simpa using h)]
  simp
theorem tfd:(!decide ((true:Bool)=false))=true:=rfl
theorem ftd:(!decide ((false:Bool)=true))=true:=rfl
theorem wD:∀ (k:Nat) (d e:D),Pl k d->Pl k e->cH k [some (.d d),some (.d e)]=.ok (.d (.bool (eqb d e))) [none,none]
 | 0,_,_,h,_=>h.elim
 | k+1,d,e,h,h'=>by
  rw[cH]
  cases e with
  | none =>
   cases d with
   | none=>rw[oh];simp only[VS.evs,Nat.reduceAdd,Nat.reduceLT,Nat.reduceLeDiff,Nat.reduceSub,Nat.reduceEqDiff]
   | dict x=>exact h.elim
   | _=>rw[jL (by intro z;cases z)];simp only[VS.evs,Nat.reduceAdd,Nat.reduceLT,Nat.reduceLeDiff,Nat.reduceSub,Nat.reduceEqDiff]
  | bool b =>
   cases d with
   | bool c =>
    have:eqb (.bool c) (.bool b)=decide (c=b):=by
     by_cases z:c=b
     ·rw[z,oh];simp
     ·rw[jL (λ q=>z (by cases q;rfl))];simp[z]
    rw[this]
    simp only[VS.evs,Nat.reduceAdd,Nat.reduceLT,Nat.reduceLeDiff,Nat.reduceSub,Nat.reduceEqDiff]
   | dict x=>exact h.elim
   | _=>rw[jL (by intro z;cases z)];simp only[VS.evs,Nat.reduceAdd,Nat.reduceLT,Nat.reduceLeDiff,Nat.reduceSub,Nat.reduceEqDiff]
  | int i =>
   cases d with
   | int j =>
    have:eqb (.int j) (.int i)=decide (j=i):=by
     by_cases z:j=i
     ·rw[z,oh];simp
     ·rw[jL (λ q=>z (by cases q;rfl))];simp[z]
    rw[this]
    simp only[VS.evs,Nat.reduceAdd,Nat.reduceLT,Nat.reduceLeDiff,Nat.reduceSub,Nat.reduceEqDiff,adX]
   | none=>rw[jL (by intro z;cases z)];simp only[VS.evs,Nat.reduceAdd,Nat.reduceLT,Nat.reduceLeDiff,Nat.reduceSub,Nat.reduceEqDiff,qj (d:=.none) (by intro i z;cases z) (by intro i z;cases z)]
   | bool x=>rw[jL (by intro z;cases z)];simp only[VS.evs,Nat.reduceAdd,Nat.reduceLT,Nat.reduceLeDiff,Nat.reduceSub,Nat.reduceEqDiff,qj (d:=.bool x) (by intro i z;cases z) (by intro i z;cases z)]
   | str x=>rw[jL (by intro z;cases z)];simp only[VS.evs,Nat.reduceAdd,Nat.reduceLT,Nat.reduceLeDiff,Nat.reduceSub,Nat.reduceEqDiff,qj (d:=.str x) (by intro i z;cases z) (by intro i z;cases z)]
   | list x=>rw[jL (by intro z;cases z)];simp only[VS.evs,Nat.reduceAdd,Nat.reduceLT,Nat.reduceLeDiff,Nat.reduceSub,Nat.reduceEqDiff,qj (d:=.list x) (by intro i z;cases z) (by intro i z;cases z)]
   | tuple x=>rw[jL (by intro z;cases z)];simp only[VS.evs,Nat.reduceAdd,Nat.reduceLT,Nat.reduceLeDiff,Nat.reduceSub,Nat.reduceEqDiff,qj (d:=.tuple x) (by intro i z;cases z) (by intro i z;cases z)]
   | dict x=>exact h.elim
  | str s =>
   cases d with
   | str t =>
    have:eqb (.str t) (.str s)=decide (t=s):=by
     by_cases z:t=s
     ·rw[z,oh];simp
     ·rw[jL (λ q=>z (by cases q;rfl))];simp[z]
    rw[this]
    simp only[VS.evs,Nat.reduceAdd,Nat.reduceLT,Nat.reduceLeDiff,Nat.reduceSub,Nat.reduceEqDiff]
   | dict x=>exact h.elim
   | _=>rw[jL (by intro z;cases z)];simp only[VS.evs,Nat.reduceAdd,Nat.reduceLT,Nat.reduceLeDiff,Nat.reduceSub,Nat.reduceEqDiff]
  | list ys =>
   cases d with
   | list xs =>
    by_cases hl:xs.length=ys.length
    ·obtain⟨o2,o3,e⟩:=wC (m:=cH k) (d0:=some (.d (.list xs))) (d1:=some (.d (.list ys))) (xs.zip ys) none none λ z hz=>wD k z.1 z.2 (h _ (List.of_mem_zip hz).1) (h' _ (List.of_mem_zip hz).2)
     have key:eqb (.list xs) (.list ys)=((xs.zip ys).all λ z=>eqb z.1 z.2):=by
      rw[Bool.eq_iff_iff,aag,aah hl];exact⟨λ z=>by cases z;rfl,λ z=>by rw[z]⟩
     rw[key]
     cases hb:((xs.zip ys).all λ z=>eqb z.1 z.2) with
     | true=>rw[hb]at e;simp only[VS.evs,Nat.reduceAdd,Nat.reduceLT,Nat.reduceLeDiff,Nat.reduceSub,Nat.reduceEqDiff,sH,e,hl]
     | false=>rw[hb]at e;simp only[VS.evs,Nat.reduceAdd,Nat.reduceLT,Nat.reduceLeDiff,Nat.reduceSub,Nat.reduceEqDiff,sH,e,hl]
    ·rw[jL (λ z=>hl (by cases z;rfl))]
     have hi:((xs.length:Nat):Int)≠((ys.length:Nat):Int):=by omega
     simp only[VS.evs,Nat.reduceAdd,Nat.reduceLT,Nat.reduceLeDiff,Nat.reduceSub,Nat.reduceEqDiff,hi,decide_false,Bool.not_false]
   | dict x=>exact h.elim
   | _=>rw[jL (by intro z;cases z)];simp only[VS.evs,Nat.reduceAdd,Nat.reduceLT,Nat.reduceLeDiff,Nat.reduceSub,Nat.reduceEqDiff,tfd,ftd]
  | tuple ys =>
   cases d with
   | tuple xs =>
    by_cases hl:xs.length=ys.length
    ·obtain⟨o2,o3,e⟩:=wC (m:=cH k) (d0:=some (.d (.tuple xs))) (d1:=some (.d (.tuple ys))) (xs.zip ys) none none λ z hz=>wD k z.1 z.2 (h _ (List.of_mem_zip hz).1) (h' _ (List.of_mem_zip hz).2)
     have key:eqb (.tuple xs) (.tuple ys)=((xs.zip ys).all λ z=>eqb z.1 z.2):=by
      rw[Bool.eq_iff_iff,aag,aah hl];exact⟨λ z=>by cases z;rfl,λ z=>by rw[z]⟩
     rw[key]
     cases hb:((xs.zip ys).all λ z=>eqb z.1 z.2) with
     | true=>rw[hb]at e;simp only[VS.evs,Nat.reduceAdd,Nat.reduceLT,Nat.reduceLeDiff,Nat.reduceSub,Nat.reduceEqDiff,sH,e,hl]
     | false=>rw[hb]at e;simp only[VS.evs,Nat.reduceAdd,Nat.reduceLT,Nat.reduceLeDiff,Nat.reduceSub,Nat.reduceEqDiff,sH,e,hl]
    ·rw[jL (λ z=>hl (by cases z;rfl))]
     have hi:((xs.length:Nat):Int)≠((ys.length:Nat):Int):=by omega
     simp only[VS.evs,Nat.reduceAdd,Nat.reduceLT,Nat.reduceLeDiff,Nat.reduceSub,Nat.reduceEqDiff,hi,decide_false,Bool.not_false]
   | dict x=>exact h.elim
   | _=>rw[jL (by intro z;cases z)];simp only[VS.evs,Nat.reduceAdd,Nat.reduceLT,Nat.reduceLeDiff,Nat.reduceSub,Nat.reduceEqDiff,tfd,ftd]
  | dict _=>exact h'.elim
end Lw
namespace Lw
open PySem PySem.Spec PyProof.Rows L2 VS
def tU:LS->R O:=(gSeq (gAsg 1 (gD (gIxP 0 (gC (.int 0)))))
  (gSeq (gAsg 2 (gD (gC (.str " +"))))
  (gSeq (gFor (λ L=>((gFz (gSl (gPeek 0) (gSo (gC (.int 1))) gNo)) L).bind fG) (fName 3) (gIf (gB (gIsi "list" (gPeek 3))) (gSeq (gAsg 1 (gOp dAdd (gVar 1) (gVar 2)))
  (gSeq (gAsg 2 (gD (gC (.str " -"))))
  (gFor (λ L=>((gVar 3) L).bind fG) (fName 4) (gAsg 1 (gOp dAdd (gFz (gOp dAdd (gVar 1) (gC (.str " ")))) (gVar 4)))))) (gAsg 1 (gOp dAdd (gFz (gOp dAdd (gVar 1) (gC (.str " ")))) (gUn dStr (gPeek 3))))))
  (gRet (gMove 1)))))
def jM:LS->R S:=runDef [false] 5 tU
def vz:LS->R O:=(gSeq (gAsg 1 (gDlitN (gPCons (gC (.str "come")) (gC (.str "abb")) (gPCons (gC (.str "rise")) (gC (.str "abb")) (gPCons (gC (.str "die")) (gC (.str "aba")) (gPCons (gC (.str "penance")) (gC (.str "a")) (gPCons (gC (.str "bring")) (gC (.str "ab")) (gPCons (gC (.str "give")) (gC (.str "baab")) gPNil))))))))
  (gSeq (gAsg 2 (gDlitN (gPCons (gC (.str "pay")) (gC (.str "aabb")) (gPCons (gC (.str "claim")) (gC (.str "abbb+")) (gPCons (gC (.str "wergild")) (gC (.str "aabbb+")) (gPCons (gC (.str "accuse")) (gC (.str "babb+")) gPNil))))))
  (gRet (gD (gDGetX 1 (gVar 0) (gDGetX 2 (gVar 0) (gC .none)))))))
def lB:LS->R S:=runDef [false] 3 vz
def nA:LS->R O:=(gSeq (gAsg 1 (gCall Lw.ao [.r 0,.d (gC (.int 4))]))
  (gSeq (gIf (gB (gOp dEq (gPeek 1) (gC (.int 0)))) (gRet (gD (gOp dIx (gFz (gLst (gCons (gC (.int 0)) (gCons (gC (.int 9)) (gCons (gC (.int 10)) (gCons (gC (.int 999999999)) (gCons (gC (.int 100000000)) (gCons (gC (.int 99)) gNil)))))))) (gFz (gCall Lw.ao [.r 0,.d (gC (.int 6))]))))) gNext)
  (gSeq (gIf (gB (gOp dEq (gPeek 1) (gC (.int 1)))) (gRet (gCall Lw.ao [.r 0,.d (gC (.int 1000000000))])) gNext)
  (gRet (gCall Lw.ao [.r 0,.d (gC (.int 30))])))))
def fL:LS->R S:=runDef [true] 2 nA
def yD:LS->R O:=(gRet (gLc [2] (λ L=>((gCons (gFz (gCall Lw.ao [.r 0,.d (gOp dIx (gFz (gLst (gCons (gC (.int 3)) (gCons (gC (.int 3)) (gCons (gC (.int 3)) (gCons (gC (.int 16)) gNil)))))) (gFz (gCall Lw.ao [.r 0,.d (gC (.int 4))])))])) gNil) L).bind abC) (fName 2) gYes (gIxP 1 (gFz (gCall Lw.ao [.r 0,.d (gUn dLen (gPeek 1))])))))
def lC:LS->R S:=runDef [true,true] 3 yD
def oJ:LS->R O:=(gSeq (gAsg 2 (gLst (gCons (gC (.str "come")) (gCons (gC (.str "rise")) (gCons (gC (.str "die")) (gCons (gC (.str "penance")) (gCons (gC (.str "bring")) (gCons (gC (.str "give")) (gCons (gC (.str "pay")) (gCons (gC (.str "claim")) (gCons (gC (.str "wergild")) (gCons (gC (.str "accuse")) gNil))))))))))))
  (gSeq (gAsg 3 (gD (gIxP 2 (gFz (gCall Lw.ao [.r 0,.d (gC (.int 10))])))))
  (gSeq (gAsg 4 (gLst (gCons (gVar 3) gNil)))
  (gSeq (gFor (λ L=>((gFz (gCall Lw.lB [.d (gVar 3)])) L).bind fG) (fName 5) (gIf (gB (gOp dEq (gPeek 5) (gC (.str "a")))) (gDrop (gApp 4 (gIxP 1 (gFz (gCall Lw.ao [.r 0,.d (gUn dLen (gPeek 1))]))))) (gIf (gB (gOp dEq (gPeek 5) (gC (.str "b")))) (gDrop (gApp 4 (gFz (gCall Lw.fL [.r 0])))) (gAsg 4 (gOp dAdd (gVar 4) (gFz (gLst (gCons (gFz (gCall Lw.lC [.r 0,.r 1])) (gCons (gFz (gCall Lw.lC [.r 0,.r 1])) gNil)))))))))
  (gRet (gD (gUn dTupL (gPeek 4))))))))
def gJ:LS->R S:=runDef [true,true] 6 oJ
def rE:LS->R O:=(gSeq (gIf (gB (gOp dNotIn (gIxP 0 (gC (.int 0))) (gC (.tuple [.str "claim",.str "wergild",.str "accuse"])))) (gRet (gD (gJoin (gC (.str " ")) (gFz (gLc [1] (λ L=>((gVar 0) L).bind fG) (fName 1) gYes (gUn dStr (gPeek 1))))))) gNext)
  (gRet (gD (gJoin (gC (.str " ")) (gFz (gOp dAdd (gFz (gOp dAdd (gFz (gOp dAdd (gFz (gOp dAdd (gFz (gLc [1] (λ L=>((gFz (gSl (gPeek 0) gNo (gSo (gUn dNeg (gC (.int 2)))))) L).bind fG) (fName 1) gYes (gUn dStr (gPeek 1)))) (gFz (gLst (gCons (gC (.str "+")) gNil))))) (gIxP 0 (gUn dNeg (gC (.int 2)))))) (gFz (gLst (gCons (gC (.str "-")) gNil))))) (gIxP 0 (gUn dNeg (gC (.int 1))))))))))
def iz:LS->R S:=runDef [false] 2 rE
def mW:LS->R O:=(gSeq (gIf (gOr (gB (gOp dLt (gUn dLen (gPeek 0)) (gC (.int 1)))) (gOr (gB (gOp dGt (gUn dLen (gPeek 0)) (gC (.int 9)))) (gAnd (gB (gOp dEq (gIxP 0 (gC (.int 0))) (gC (.str "0")))) (gB (gOp dGt (gUn dLen (gPeek 0)) (gC (.int 1))))))) gNever gNext)
  (gSeq (gFor (λ L=>((gVar 0) L).bind fG) (fName 1) (gIf (gB (gOp dNotIn (gPeek 1) (gC (.str "0123456789")))) gNever gNext))
  (gRet (gD (gUn dIntS (gPeek 0))))))
def eX:LS->R S:=runDef [false] 2 mW
def oK:LS->R O:=(gSeq (gIf (gNot (gB (gFz (gCall Lw.lu [.d (gVar 0)])))) gNever gNext)
  (gRet (gMove 0)))
def cD:LS->R S:=runDef [false] 1 oK
def nH:LS->R O:=(gSeq (gIf (gB (gOp dNe (gUn dLen (gPeek 0)) (gUn dLen (gPeek 1)))) gNever gNext)
  (gSeq (gAsg 2 (gLst gNil))
  (gSeq (gFor (λ L=>((gCons (gVar 0) (gCons (gVar 1) gNil)) L).bind asZg) (fTup 2 (fCons (fName 3) (fCons (fName 4) fNil))) (gIf (gB (gOp dEq (gPeek 4) (gC (.str "a")))) (gDrop (gApp 2 (gFz (gCall Lw.cD [.d (gVar 3)])))) (gDrop (gApp 2 (gFz (gCall Lw.eX [.d (gVar 3)]))))))
  (gRet (gMove 2)))))
def dN:LS->R S:=runDef Q1 5 nH
def nJ:LS->R O:=(gSeq (gIf (gOr (gB (gOp dLt (gUn dLen (gPeek 0)) (gC (.int 2)))) (gOr (gB (gOp dNe (gIxP 0 (gC (.int 0))) (gC (.str "+")))) (gB (gOp dNe (gCount (gPeek 0) (gC (.str "-"))) (gC (.int 1)))))) gNever gNext)
  (gSeq (gAsg 1 (gD (aaa (gPeek 0) (gC (.str "-")))))
  (gSeq (gAsg 2 (gLcR [4] (λ L=>((gFz (gSl (gPeek 0) (gSo (gC (.int 1))) (gSo (gVar 1)))) L).bind fG) (fName 4) gYes (gFz (gCall Lw.cD [.d (gVar 4)]))))
  (gSeq (gAsg 3 (gLcR [4] (λ L=>((gFz (gSl (gPeek 0) (gSo (gFz (gOp dAdd (gVar 1) (gC (.int 1))))) gNo)) L).bind fG) (fName 4) gYes (gFz (gCall Lw.cD [.d (gVar 4)]))))
  (gRet (gLos [.t (gMove 2),.t (gMove 3)]))))))
def fM:LS->R S:=runDef [false] 5 nJ
def oM:LS->R O:=(gSeq (gAsg 1 (gSplit (gVar 0) (gC (.str " "))))
  (gSeq (gIf (gB (gUn (z8 [("come","abb"),("rise","abb"),("die","aba"),("penance","a"),("bring","ab"),("give","baab"),("pay","aabb"),("claim","abbb"),("wergild","aabbb"),("accuse","babb")]) (gIxP 1 (gC (.int 0))))) gNever gNext)
  (gSeq (gAsg 2 (gD (gUn (dTab [("come","abb"),("rise","abb"),("die","aba"),("penance","a"),("bring","ab"),("give","baab"),("pay","aabb"),("claim","abbb"),("wergild","aabbb"),("accuse","babb")]) (gIxP 1 (gC (.int 0))))))
  (gSeq (gIf (gB (gOp dNotIn (gIxP 1 (gC (.int 0))) (gC (.tuple [.str "claim",.str "wergild",.str "accuse"])))) (gRet (gOt (gUn dTupL (gFz (gOp dAdd (gFz (gLst (gCons (gIxP 1 (gC (.int 0))) gNil))) (gFz (gCall Lw.dN [.d (gFz (gSl (gPeek 1) (gSo (gC (.int 1))) gNo)),.d (gVar 2)]))))))) gNext)
  (gSeq (gAsg 3 (gOp dAdd (gC (.int 1)) (gUn dLen (gPeek 2))))
  (gRet (gTupS (gAddS (gFz (gOp dAdd (gFz (gLst (gCons (gIxP 1 (gC (.int 0))) gNil))) (gFz (gCall Lw.dN [.d (gFz (gSl (gPeek 1) (gSo (gC (.int 1))) (gSo (gVar 3)))),.d (gVar 2)])))) (gCall Lw.fM [.d (gFz (gSl (gPeek 1) (gSo (gVar 3)) gNo))])))))))))
def fB:LS->R S:=runDef [false] 4 oM
def vA:LS->R O:=(gSeq (gAsg 1 (gCall Lw.lw [.r 0]))
  (gSeq (gAsg 2 (gD (gFz (gCall Lw.ie [.r 1,.d (gFz (gOp dAdd (gC (.int 1)) (gFz (gCall Lw.ao [.r 1,.d (gC (.int 6))]))))]))))
  (gSeq (gFor (λ L=>((gCons (gC (.int 3)) gNil) L).bind abC) (fName 3) (gSeq (gAsg 4 (gD (gFz (gCall Lw.gJ [.r 1,.r 2]))))
  (gSeq (gAsg 5 (gD (gFzD (gTupS (gLcS [8] (gLentT 4) 8 (gIfE (gViewT (gB (gIsi "list" (gPeek 8)))) (gViewE (gUn dList (gPeek 8))) (gD (gView (gVar 8)))))))))
  (gSeq (gAsg 6 (gD (gFz (gCall Lw.jM [.d (gVar 4)]))))
  (gSeq (gIf (gOr (gNot (gB (gFz (gCall (Lw.cH 12) [.d (gFz (gCall Lw.iz [.d (gVar 5)])),.d (gVar 6)])))) (gNot (gB (gFz (gCall (Lw.cH 12) [.d (gVar 5),.d (gVar 4)]))))) (gRet (gD (gC (.bool false)))) gNext)
  (gSeq (gAsg 7 (gCall Lw.fB [.d (gVar 6)]))
  (gSeq (gIf (gNot (gB (vh (gFz (gCall (Lw.cH 12) [.d (gVar 7),.d (gVar 4)]))))) (gRet (gD (gC (.bool false)))) gNext)
  (gSeq (gGrw 7 8)
  (gIf (gOr (gNot (gB (gFz (gCall (Lw.cH 12) [.d (gFzD (gCall Lw.fB [.d (gVar 6)])),.d (gVar 4)])))) (gNot (gB (gFz (gCall (Lw.cH 12) [.d (gFz (gCall Lw.iz [.d (gVar 5)])),.d (gVar 6)]))))) (gRet (gD (gC (.bool false)))) gNext)))))))))
  (gRet (gD (gC (.bool true)))))))
def jd:LS->R S:=runDef [true] 9 vA
end Lw
namespace VS
open PySem PySem.Spec PyProof.Rows L2
inductive T (ε α:Type) where
 | ok (a:α)
 | er (c:Nat) (e:ε)
 | no
namespace T
variable {ε ε' α β γ ν ρ:Type}
def bind (t:T ε α)(k:α->T ε β):T ε β:=match t with
 | .ok a=>k a
 | .er c e=>.er c e
 | .no=>.no
theorem ok_bind (a:α)(k:α->T ε β):(T.ok a).bind k=k a:=rfl
def ofO (o:Option α):T ε α:=match o with
 | some a=>.ok a
 | none=>.no
@[irreducible] def gd (p:Prop)[Decidable p](t:T ε α):T ε α:=if p then t else .no
theorem gd_of {p:Prop}[Decidable p](h:p)(t:T ε α):gd p t=t:=by
 unfold gd;exact if_pos h
def lift (f:ε'->ε)(t:T ε' α):T ε α:=match t with
 | .ok a=>.ok a
 | .er c e=>.er c (f e)
 | .no=>.no
def forM:List α->ν->(α->ν->T ε ν)->T ε ν
 | [],v,_=>.ok v
 | x::xs,v,f=>(f x v).bind λ v'=>forM xs v' f
inductive Lp (ν ρ:Type) where
 | nx (v:ν)
 | bk (v:ν)
 | rt (r:ρ)
inductive Le (ν ρ:Type) where
 | nx (v:ν)
 | rt (r:ρ)
def forL:List α->ν->(α->ν->T ε (Lp ν ρ))->T ε (Le ν ρ)
 | [],v,_=>.ok (.nx v)
 | x::xs,v,f=>(f x v).bind λ r=>match r with
  | .nx v'=>forL xs v' f
  | .bk v'=>.ok (.nx v')
  | .rt r=>.ok (.rt r)
def bindL (t:T ε (Le ν ρ))(n:ν->T ε α)(r:ρ->T ε α):T ε α:=t.bind λ z=>match z with
 | .nx v=>n v
 | .rt x=>r x
end T
def Mt (A L:LS):Prop:=L.length=A.length/\∀ (i:Nat) (s:S),A[i]?=some (some s)->L[i]?=some (some s)
theorem Mt.refl (A:LS):Mt A A:=⟨rfl,λ _ _ h=>h⟩
theorem Mt.trans {A B C:LS}(h:Mt A B)(k:Mt B C):Mt A C:=⟨k.1.trans h.1,λ i s e=>k.2 i s (h.2 i s e)⟩
theorem Mt.set {A L:LS}(h:Mt A L)(i:Nat)(x:Option S):Mt (A.set i x) (L.set i x):=⟨by rw[List.length_set,List.length_set];exact h.1,λ j s e=>by
 rcases gY e with ⟨rfl,hs⟩ | ⟨hj,hs⟩
 ·have hlt:i < A.length:=by
   have:=(List.getElem?_eq_some_iff.mp e).1
   rwa [List.length_set]at this
  rw[List.getElem?_set_self (by rw[h.1];exact hlt),hs]
 ·rw[List.getElem?_set_ne hj]
  exact h.2 j s hs⟩
theorem Mt.off {A L:LS}(h:Mt A L)(i:Nat):Mt (A.set i none) L:=⟨by rw[List.length_set];exact h.1,λ j s e=>by
 rcases gY e with ⟨_,hs⟩ | ⟨hj,hs⟩
 ·cases hs
 ·exact h.2 j s hs⟩
theorem Mt.offL {A L:LS}(h:Mt A L)(i:Nat)(x:Option S):Mt (A.set i none) (L.set i x):=⟨by rw[List.length_set,List.length_set];exact h.1,λ j s e=>by
 rcases gY e with ⟨_,hs⟩ | ⟨hj,hs⟩
 ·cases hs
 ·rw[List.getElem?_set_ne hj]
  exact h.2 j s hs⟩
theorem aO:Mt [] []:=Mt.refl _
theorem fY {A L:LS}{x:Option S}(h:Mt A L):Mt (x::A) (x::L):=⟨by rw[List.length_cons,List.length_cons,h.1],λ i s e=>by
 cases i with
 | zero=>exact e
 | succ i=>exact h.2 i s e⟩
theorem dH {A L:LS}{x:Option S}(h:Mt A L):Mt (none::A) (x::L):=⟨by rw[List.length_cons,List.length_cons,h.1],λ i s e=>by
 cases i with
 | zero=>cases e
 | succ i=>exact h.2 i s e⟩
theorem qO {A L:LS}{a b c d:Option S}(h:Mt A L):Mt (a::b::c::d::A) (a::b::c::d::L):=fY (fY (fY (fY h)))
theorem jN {A L:LS}{a b c d:Option S}(h:Mt A L):Mt (a::b::c::none::A) (a::b::c::d::L):=fY (fY (fY (dH h)))
theorem aai {A L:LS}{a b c d:Option S}(h:Mt A L):Mt (a::b::none::none::A) (a::b::c::d::L):=fY (fY (dH (dH h)))
theorem tV {A L:LS}{a b c d:Option S}(h:Mt A L):Mt (a::none::none::none::A) (a::b::c::d::L):=fY (dH (dH (dH h)))
theorem mD {A L:LS}{a b c d:Option S}(h:Mt A L):Mt (none::none::none::none::A) (a::b::c::d::L):=dH (dH (dH (dH h)))
theorem Mt.app {A L B M:LS}(h:Mt A L)(k:Mt B M):Mt (A++B) (L++M):=⟨by rw[List.length_append,List.length_append,h.1,k.1],λ i s e=>by
 by_cases hi:i < A.length
 ·rw[List.getElem?_append_left hi]at e;rw[List.getElem?_append_left (by rw[h.1];exact hi)];exact h.2 i s e
 ·rw[List.getElem?_append_right (Nat.le_of_not_lt hi)]at e;rw[List.getElem?_append_right (by rw[h.1];exact Nat.le_of_not_lt hi),h.1]
  exact k.2 _ s e⟩
theorem Mt.mask:∀ {md:List Bool} {A L:LS},Mt A L->Mt (maskL md A) (maskL md L)
 | [],A,L,h=>by cases A<;>cases L<;>exact aO
 | b::md,[],[],h=>Mt.refl _
 | b::md,[],_::_,h=>by cases h.1
 | b::md,_::_,[],h=>by cases h.1
 | b::md,x::A,y::L,h=>by
  have ht:Mt A L:=⟨Nat.succ.inj h.1,λ i s e=>h.2 (i+1) s e⟩
  show Mt ((if b then x else none)::maskL md A) ((if b then y else none)::maskL md L)
  cases b with
  | false=>exact fY (Mt.mask ht)
  | true =>
   cases x with
   | none=>exact dH (Mt.mask ht)
   | some s =>
    have:=h.2 0 s rfl
    have hy:y=some s:=Option.some.inj this
    rw[hy];exact fY (Mt.mask ht)
section
variable {ε ε' α β γ δ ω ω' ν ρ:Type}
def SimR (r:R ω)(t:T ε β)(F:β->ω)(B:β->LS)(X:ε->LS):Prop:=match t with
 | .ok b=>∃ L,r=.ok (F b) L/\Mt (B b) L
 | .er c e=>∃ L,r=.err c L/\Mt (X e) L
 | .no=>True
def SK (A:LS)(k:LS->R ω)(t:T ε β)(F:β->ω)(B:β->LS)(X:ε->LS):Prop:=∀ L,Mt A L->SimR (k L) t F B X
def Pu {α:Type}(A:LS)(g:LS->R α)(a:α):Prop:=∀ L,Mt A L->g L=.ok a L
structure Kont (ω:Type) where
 nx:LS->R ω
 rt:S->LS->R ω
 bk:LS->R ω
 ct:LS->R ω
def fin (K:Kont ω)(r:R O):R ω:=match r with
 | .ok .nx L=>K.nx L
 | .ok (.rt s) L=>K.rt s L
 | .ok .bk L=>K.bk L
 | .ok .ct L=>K.ct L
 | .err c L=>.err c L
 | .stuck=>.stuck
def Kont.next (K:Kont ω)(g:LS->R O):Kont ω:={ K with nx:=λ L=>fin K (g L) }
variable {A A':LS}{F:β->ω}{B:β->LS}{X:ε->LS}{t:T ε β}
theorem SK.weak {k:LS->R ω}(h:SK A' k t F B X)(m:Mt A' A):SK A k t F B X:=λ L hL=>h L (m.trans hL)
theorem tW {w:ω}{b:β}(hw:w=F b)(hB:Mt (B b) A):SK A (λ L=>.ok w L) (.ok b) F B X:=λ L hL=>⟨L,by rw[hw],hB.trans hL⟩
theorem tX {k:LS->R ω}:SK A k (.no) F B X:=λ _ _=>trivial
theorem akR {k:LS->R ω}{p:Prop}[Decidable p](h:p->SK A k t F B X):SK A k (T.gd p t) F B X:=by
 unfold T.gd
 split
 ·exact h (by assumption)
 ·exact tX
theorem aX {g:LS->R α}{a:α}{k:α->LS->R ω}(h:Pu A g a)(h2:SK A (k a) t F B X):SK A (λ L=>(g L).bind k) t F B X:=λ L hL=>by
 show SimR ((g L).bind k) t F B X;rw[h L hL];exact h2 L hL
theorem fW {a:α}{k:α->LS->R ω}(h2:SK A (k a) t F B X):SK A (λ L=>(R.ok a L).bind k) t F B X:=h2
theorem aQ {r:R α}{k:α->LS->R γ}{j:γ->LS->R ω}:(r.bind k).bind j=r.bind λ a L=>(k a L).bind j:=by cases r<;>rfl
theorem fO {g:LS->R α}{k:α->LS->R γ}{j:γ->LS->R ω}(h:SK A (λ L=>(g L).bind λ a L1=>(k a L1).bind j) t F B X):SK A (λ L=>((g L).bind k).bind j) t F B X:=λ L hL=>by
 show SimR (((g L).bind k).bind j) t F B X;rw[aQ];exact h L hL
theorem e_d {g:LS->R D}{k:S->LS->R ω}(h:SK A (λ L=>(g L).bind λ d L1=>k (.d d) L1) t F B X):SK A (λ L=>(gD g L).bind k) t F B X:=fO h
theorem j6 {g:LS->R S}{k:D->LS->R ω}(h:SK A (λ L=>(g L).bind λ s L1=>(frS s L1).bind k) t F B X):SK A (λ L=>(gFz g L).bind k) t F B X:=fO h
theorem e_B {g:LS->R D}{k:Bool->LS->R ω}(h:SK A (λ L=>(g L).bind λ d L1=>(asB d L1).bind k) t F B X):SK A (λ L=>(gB g L).bind k) t F B X:=fO h
theorem rF {f:D->D->Option α}{ga gb:LS->R D}{k:α->LS->R ω}(h:SK A (λ L=>(ga L).bind λ d L1=>(gb L1).bind λ e L2=>(ofO (f d e) L2).bind k) t F B X):SK A (λ L=>(gOp f ga gb L).bind k) t F B X:=λ L hL=>by
 show SimR (((ga L).bind λ d L1=>(gb L1).bind λ e L2=>ofO (f d e) L2).bind k) t F B X;rw[aQ]
 have:=h L hL
 dsimp only at this
 cases e:ga L with
 | stuck=>rw[e]at this;exact this
 | err c L1=>rw[e]at this;exact this
 | ok d L1 =>
  rw[e]at this;show SimR (((gb L1).bind λ e L2=>ofO (f d e) L2).bind k) t F B X;rw[aQ];exact this
theorem acl {f:D->Option α}{ga:LS->R D}{k:α->LS->R ω}(h:SK A (λ L=>(ga L).bind λ d L1=>(ofO (f d) L1).bind k) t F B X):SK A (λ L=>(gUn f ga L).bind k) t F B X:=fO h
theorem e_o {o:Option α}{z:α}{k:α->LS->R ω}(h:o=some z)(h2:SK A (k z) t F B X):SK A (λ L=>(ofO o L).bind k) t F B X:=by
 rw[h];exact h2
theorem jX {o:Option α}{p:Option γ}{f:γ->α}{k:α->LS->R ω}{t':γ->T ε β}(h:o=p.map f)(h2:∀ z,SK A (k (f z)) (t' z) F B X):SK A (λ L=>(ofO o L).bind k) ((T.ofO p).bind t') F B X:=by
 rw[h]
 cases p with
 | none=>exact tX
 | some z=>exact h2 z
theorem yE {a:LS->R D}{r:LS->R (List D)}{k:List D->LS->R ω}(h:SK A (λ L=>(a L).bind λ d L1=>(r L1).bind λ ds L2=>k (d::ds) L2) t F B X):SK A (λ L=>(gCons a r L).bind k) t F B X:=λ L hL=>by
 show SimR (((a L).bind λ d L1=>(r L1).bind λ ds L2=>R.ok (d::ds) L2).bind k) t F B X;rw[aQ]
 have:=h L hL
 dsimp only at this
 cases e:a L with
 | stuck=>rw[e]at this;exact this
 | err c L1=>rw[e]at this;exact this
 | ok d L1 =>
  rw[e]at this;show SimR (((r L1).bind λ ds L2=>R.ok (d::ds) L2).bind k) t F B X;rw[aQ];exact this
theorem ajK {a:LS->R (List D)}{k:S->LS->R ω}(h:SK A (λ L=>(a L).bind λ ds L1=>(if ds.length<=sizeLine then R.ok (S.ol ds) L1 else .stuck).bind k) t F B X):SK A (λ L=>(gLst a L).bind k) t F B X:=fO h
theorem adY {p:Prop}[Decidable p]{r:LS->R α}{k:α->LS->R ω}(hp:p)(h:SK A (λ L=>(r L).bind k) t F B X):SK A (λ L=>(if p then r L else R.stuck).bind k) t F B X:=by
 simp only[if_pos hp]
 exact h
theorem amn {i:Nat}{ds:List D}{k:D->LS->R ω}(h:A[i]?=some (some (.ol ds)))(h2:SK (A.set i (some (.d (.list ds)))) (k (.list ds)) t F B X):SK A (λ L=>(gVar i L).bind k) t F B X:=λ L hL=>by
 show SimR ((gVar i L).bind k) t F B X;unfold gVar;rw[hL.2 i _ h];exact h2 _ (hL.set i _)
theorem yF {i:Nat}{s:S}{k:S->LS->R ω}(h:A[i]?=some (some s))(hs:∀ ns,s≠.scr ns)(h2:SK (A.set i none) (k s) t F B X)(hb:s.own=true:=by rfl):SK A (λ L=>(gMove i L).bind k) t F B X:=λ L hL=>by
 show SimR ((gMove i L).bind k) t F B X;unfold gMove;rw[hL.2 i _ h]
 cases s with
 | d d=>exact h2 _ (hL.off i)
 | scr ns=>exact absurd rfl (hs ns)
 | ol _=>exact h2 _ (hL.offL i _)
 | odK _=>exact h2 _ (hL.offL i _)
 | odT _=>exact h2 _ (hL.offL i _)
 | ob _ _=>exact h2 _ (hL.offL i _)
 | os _=>exact h2 _ (hL.offL i _)
 | ot _=>exact h2 _ (hL.offL i _)
 | b _=>cases hb
 | bl _=>cases hb
theorem abU {a:LS->R Bool}{k:Bool->LS->R ω}(h:SK A (λ L=>(a L).bind λ x L1=>k (!x) L1) t F B X):SK A (λ L=>(gNot a L).bind k) t F B X:=fO h
theorem aoy {g:LS->R α}{k:α->LS->R ω}{t1:T ε γ}{F1:γ->α}{B1:γ->LS}{t':γ->T ε β}(h1:SK A g t1 F1 B1 X)(h2:∀ c,SK (B1 c) (k (F1 c)) (t' c) F B X):SK A (λ L=>(g L).bind k) (t1.bind t') F B X:=λ L hL=>by
 show SimR ((g L).bind k) (t1.bind t') F B X
 have h:=h1 L hL
 cases t1 with
 | no=>trivial
 | er c e =>
  obtain⟨L1,h3,h4⟩:=h
  try dsimp only at h3
  rw[h3];exact⟨L1,rfl,h4⟩
 | ok b =>
  obtain⟨L1,h3,h4⟩:=h
  try dsimp only at h3
  rw[h3];exact h2 b L1 h4
theorem ajL {g:LS->R ω}(h:SK A (λ L=>(g L).bind λ a L1=>R.ok a L1) t F B X):SK A g t F B X:=λ L hL=>by
 have:=h L hL
 dsimp only at this
 cases e:g L with
 | _=>simp only[e]at this;exact this
abbrev SS (A:LS)(g:LS->R O)(K:Kont ω)(t:T ε β)(F:β->ω)(B:β->LS)(X:ε->LS):Prop:=SK A (λ L=>fin K (g L)) t F B X
theorem aZ {K:Kont ω}{g:LS->R O}(h:SS A g K t F B X):SK A (K.next g).nx t F B X:=h
theorem dY {K:Kont ω}{g1 g2:LS->R O}(h:SS A g1 (K.next g2) t F B X):SS A (gSeq g1 g2) K t F B X:=λ L hL=>by
 have:=h L hL
 dsimp only at this
 show SimR (fin K (gSeq g1 g2 L)) t F B X;unfold gSeq
 cases e:g1 L with
 | stuck=>simp only[e]at this;exact this
 | err c L1=>simp only[e]at this;exact this
 | ok o L1 =>
  simp only[e]at this
  cases o<;>exact this
theorem lD {K:Kont ω}(h:SK A K.nx t F B X):SS A gNext K t F B X:=h
theorem agN {K:Kont ω}{r:R α}{k:α->LS->R O}:fin K (r.bind k)=r.bind λ a L=>fin K (k a L):=by cases r<;>rfl
theorem vB {K:Kont ω}{g:LS->R α}{k:α->LS->R O}(h:SK A (λ L=>(g L).bind λ a L1=>fin K (k a L1)) t F B X):SS A (λ L=>(g L).bind k) K t F B X:=λ L hL=>by
 show SimR (fin K ((g L).bind k)) t F B X;rw[agN];exact h L hL
theorem s_asg {K:Kont ω}{i:Nat}{g:LS->R S}(h:SK A (λ L=>(g L).bind λ s L1=>K.nx (L1.set i (some s))) t F B X):SS A (gAsg i g) K t F B X:=vB h
theorem jo {K:Kont ω}{i:Nat}{s:S}{A':LS}(hA:A.set i (some s)=A')(h:SK A' K.nx t F B X):SK A (λ L=>K.nx (L.set i (some s))) t F B X:=λ L hL=>h _ (by rw[←hA];exact hL.set i _)
theorem s_drop {K:Kont ω}{g:LS->R α}(h:SK A (λ L=>(g L).bind λ _ L1=>K.nx L1) t F B X):SS A (gDrop g) K t F B X:=vB h
theorem s_ret {K:Kont ω}{g:LS->R S}(h:SK A (λ L=>(g L).bind λ s L1=>K.rt s L1) t F B X):SS A (gRet g) K t F B X:=vB h
theorem s_if {K:Kont ω}{c:LS->R Bool}{g1 g2:LS->R O}{x:Bool}{t1 t2:T ε β}(hc:Pu A c x)(h1:SS A g1 K t1 F B X)(h2:SS A g2 K t2 F B X):SS A (gIf c g1 g2) K (if x=true then t1 else t2) F B X:=vB (aX hc (by
 cases x with
 | true=>exact h1
 | false=>exact h2))
theorem tY {K:Kont ω}{c:LS->R Bool}{g1 g2:LS->R O}(h:SK A (λ L=>(c L).bind λ b L1=>fin K (if b=true then g1 L1 else g2 L1)) t F B X):SS A (gIf c g1 g2) K t F B X:=vB h
theorem tZ {K:Kont ω}{g1 g2:LS->R O}{x:Bool}{t1 t2:T ε β}(h1:SS A g1 K t1 F B X)(h2:SS A g2 K t2 F B X):SK A (λ L=>fin K (if x=true then g1 L else g2 L)) (if x=true then t1 else t2) F B X:=by
 cases x with
 | true=>exact h1
 | false=>exact h2
def leO (f:ρ->S):T.Le ν ρ->O
 | .nx _=>.nx
 | .rt r=>.rt (f r)
def leB (Bn:ν->LS)(Br:ρ->LS):T.Le ν ρ->LS
 | .nx v=>Bn v
 | .rt r=>Br r
def Kf (md:List Bool):Kont S:=⟨λ L=>.ok (.d .none) (maskL md L),λ s L=>.ok s (maskL md L),λ _=>.stuck,λ _=>.stuck⟩
theorem rQ {md:List Bool}{N:Nat}{g:LS->R O}{A0:LS}{F:β->S}{X':ε->LS}(h:SS (A0++List.replicate (N - A0.length) none) g (Kf md) t F B X')(hX:∀ e,Mt (X e) (maskL md (X' e))):SK A0 (runDef md N g) t F B X:=λ L hL=>by
 have h1:=h (L++List.replicate (N - L.length) none) (by rw[hL.1];exact hL.app (Mt.refl _))
 unfold runDef
 cases t with
 | no=>trivial
 | er c e =>
  obtain⟨L1,h3,h4⟩:=h1
  try dsimp only at h3
  cases e':g (L++List.replicate (N - L.length) none) with
  | ok o L2=>rw[e']at h3;cases o<;>cases h3
  | stuck=>rw[e']at h3;cases h3
  | err c' L2=>rw[e']at h3;cases h3;exact⟨_,rfl,(hX e).trans h4.mask⟩
 | ok b =>
  obtain⟨L1,h3,h4⟩:=h1
  try dsimp only at h3
  cases e':g (L++List.replicate (N - L.length) none) with
  | stuck=>rw[e']at h3;cases h3
  | err c' L2=>rw[e']at h3;cases h3
  | ok o L2 =>
   rw[e']at h3
   cases o with
   | nx=>injection h3 with h5 h6;exact⟨_,by show R.ok _ _=_;rw[h5],by rw[h6];exact h4⟩
   | rt s=>injection h3 with h5 h6;exact⟨_,by show R.ok _ _=_;rw[h5],by rw[h6];exact h4⟩
   | bk=>cases h3
   | ct=>cases h3
theorem yG {md:List Bool}{s:S}{b:β}{F:β->S}(hs:s=F b)(hB:Mt (B b) (maskL md A)):SK A (λ L=>(Kf md).rt s L) (.ok b) F B X:=λ L hL=>⟨_,by show R.ok _ _=_;rw[hs],hB.trans hL.mask⟩
theorem bL {m:LS->R S}{as:List Ar}{k:S->LS->R ω}(h:SK A (λ L=>(evArgs as L).bind λ xs L1=>(if(refs xs).Nodup then callAt m xs L1 else .stuck).bind k) t F B X):SK A (λ L=>(gCall m as L).bind k) t F B X:=fO h
theorem fP {k:List Av->LS->R ω}(h:SK A (k []) t F B X):SK A (λ L=>(evArgs [] L).bind k) t F B X:=h
theorem a_d {g:LS->R D}{as:List Ar}{k:List Av->LS->R ω}(h:SK A (λ L=>(g L).bind λ d L1=>(evArgs as L1).bind λ xs L2=>k (.d d::xs) L2) t F B X):SK A (λ L=>(evArgs (.d g::as) L).bind k) t F B X:=λ L hL=>by
 have h:=h L hL
 dsimp only at h
 show SimR (((g L).bind λ d L1=>(evArgs as L1).bind λ xs L2=>R.ok (Av.d d::xs) L2).bind k) t F B X;rw[aQ]
 cases e:g L with
 | stuck=>rw[e]at h;exact h
 | err c L1=>rw[e]at h;exact h
 | ok d L1 =>
  rw[e]at h;show SimR (((evArgs as L1).bind λ xs L2=>R.ok (Av.d d::xs) L2).bind k) t F B X;rw[aQ];exact h
theorem a_r {i:Nat}{s:S}{as:List Ar}{k:List Av->LS->R ω}(hi:A[i]?=some (some s))(h:SK A (λ L=>(evArgs as L).bind λ xs L2=>k (.r i::xs) L2) t F B X):SK A (λ L=>(evArgs (.r i::as) L).bind k) t F B X:=λ L hL=>by
 have h:=h L hL
 dsimp only at h
 show SimR ((match L[i]? with
  | some (some _)=>(evArgs as L).bind λ xs L2=>R.ok (Av.r i::xs) L2
  | _=>.stuck).bind k) t F B X
 rw[hL.2 i s hi];show SimR (((evArgs as L).bind λ xs L2=>R.ok (Av.r i::xs) L2).bind k) t F B X;rw[aQ];exact h
theorem Mt.join {A L:LS}(h:Mt A L)(i:Nat){s:S}(e:(A[i]?).join=some s):(L[i]?).join=some s:=by
 cases e1:A[i]? with
 | none=>rw[e1]at e;cases e
 | some o =>
  rw[e1]at e
  have e:o=some s:=e
  subst e
  rw[h.2 i s e1]
  rfl
theorem Mt.slots {A L:LS}(h:Mt A L):∀ xs:List Av,Mt (xs.map (slotOf A)) (xs.map (slotOf L))
 | []=>aO
 | .d d::xs=>fY (h.slots xs)
 | .r i::xs=>by
  show Mt ((A[i]?).join::xs.map (slotOf A)) ((L[i]?).join::xs.map (slotOf L))
  cases e:(A[i]?).join with
  | none=>exact dH (h.slots xs)
  | some s =>
   rw[h.join i e];exact fY (h.slots xs)
theorem Mt.set2 {A L:LS}{x y:Option S}(h:Mt A L)(i:Nat)(hx:∀ s,x=some s->y=some s):Mt (A.set i x) (L.set i y):=by
 cases x with
 | none=>exact h.offL i y
 | some s=>rw[hx s rfl];exact h.set i _
theorem Mt.back:∀ (xs:List Av) {A L ss zs:LS},Mt A L->Mt ss zs->Mt (putBack xs ss A) (putBack xs zs L)
 | [],A,L,ss,zs,h,k=>by cases ss<;>cases zs<;>exact h
 | .r i::xs,A,L,[],[],h,k=>h
 | .d d::xs,A,L,[],[],h,k=>h
 | .r i::xs,A,L,[],_::_,h,k=>by cases k.1
 | .d _::xs,A,L,[],_::_,h,k=>by cases k.1
 | .r i::xs,A,L,_::_,[],h,k=>by cases k.1
 | .d _::xs,A,L,_::_,[],h,k=>by cases k.1
 | .d d::xs,A,L,x::ss,y::zs,h,k=>Mt.back xs (ss:=ss) (zs:=zs) h ⟨Nat.succ.inj k.1,λ i s e=>k.2 (i+1) s e⟩
 | .r i::xs,A,L,x::ss,y::zs,h,k=>Mt.back xs (ss:=ss) (zs:=zs) (h.set2 i λ s e=>by
   have:=k.2 0 s (by rw[e];rfl)
   exact Option.some.inj this) ⟨Nat.succ.inj k.1,λ i s e=>k.2 (i+1) s e⟩
theorem bM {m:LS->R S}{xs:List Av}{k:S->LS->R ω}{A0:LS}{tm:T ε γ}{Fm:γ->S}{Bm:γ->LS}{Xm:ε->LS}{t':γ->T ε β}(nd:(refs xs).Nodup)(hA:xs.map (slotOf A)=A0)(hm:SK A0 m tm Fm Bm Xm)(hX:∀ e,Mt (X e) (putBack xs (Xm e) A))
  (h:∀ c,SK (putBack xs (Bm c) A) (k (Fm c)) (t' c) F B X):SK A (λ L=>(if(refs xs).Nodup then callAt m xs L else .stuck).bind k) (tm.bind t') F B X:=λ L hL=>by
 have h1:=hm (xs.map (slotOf L)) (by rw[←hA];exact hL.slots xs)
 show SimR ((if(refs xs).Nodup then callAt m xs L else .stuck).bind k) (tm.bind t') F B X;rw[if_pos nd];unfold callAt
 cases tm with
 | no=>trivial
 | er c e =>
  obtain⟨L1,h2,h3⟩:=h1
  try dsimp only at h2
  rw[h2];exact⟨_,rfl,(hX e).trans (Mt.back xs hL h3)⟩
 | ok b =>
  obtain⟨L1,h2,h3⟩:=h1
  try dsimp only at h2
  rw[h2];exact h b _ (Mt.back xs hL h3)
def Tg (A:LS)(f:D->LS->Option LS)(d:D)(A':LS):Prop:=∀ L,Mt A L->∃ L',f d L=some L'/\Mt A' L'
def Tgs (A:LS)(f:List D->LS->Option LS)(ds:List D)(A':LS):Prop:=∀ L,Mt A L->∃ L',f ds L=some L'/\Mt A' L'
theorem jA {i:Nat}{d:D}:Tg A (fName i) d (A.set i (some (.d d))):=λ L hL=>⟨_,rfl,hL.set i _⟩
theorem ajM:Tgs A fNil [] A:=λ L hL=>⟨L,rfl,hL⟩
theorem aa9 {f:D->LS->Option LS}{r:List D->LS->Option LS}{d:D}{ds:List D}{A1 A2:LS}(h:Tg A f d A1)(k:Tgs A1 r ds A2):Tgs A (fCons f r) (d::ds) A2:=λ L hL=>by
 obtain⟨L1,h1,h2⟩:=h L hL;obtain⟨L2,k1,k2⟩:=k L1 h2;exact⟨L2,by show(f d L).bind (r ds)=_;rw[h1];exact k1,k2⟩
theorem amo {m:Nat}{f:List D->LS->Option LS}{ds:List D}{A1:LS}(h:Tgs A f ds A1)(hm:ds.length=m):Tg A (fTup m f) (.tuple ds) A1:=λ L hL=>by
 obtain⟨L1,h1,h2⟩:=h L hL;exact⟨L1,by show(if ds.length=m then f ds L else none)=_;rw[if_pos hm];exact h1,h2⟩
def KL:Kont Unit:=⟨λ L=>.ok () L,λ _ _=>.stuck,λ _=>.stuck,λ L=>.ok () L⟩
theorem adZ {f:D->LS->Option LS}{g:LS->R O}{e:α->D}{Inv:ν->LS}{A1:α->ν->LS}{tb:α->ν->T ε ν}(hf:∀ x v,Tg (Inv v) f (e x) (A1 x v))(hb:∀ x v,SS (A1 x v) g KL (tb x v) (λ _=>()) Inv X) :
  ∀ (xs:List α) (v:ν),SK (Inv v) (forGo f g (xs.map e)) (T.forM xs v tb) (λ _=>O.nx) Inv X
 | [],v=>λ L hL=>⟨L,rfl,hL⟩
 | x::xs,v=>λ L hL=>by
  obtain⟨L1,h1,h2⟩:=hf x v L hL
  have h3:=hb x v L1 h2
  have ih:=adZ hf hb xs
  show SimR (forGo f g (e x::xs.map e) L) ((tb x v).bind λ v'=>T.forM xs v' tb) _ _ _;unfold forGo;rw[h1]
  show SimR (match g L1 with
   | .ok .nx L2=>forGo f g (xs.map e) L2
   | .ok .ct L2=>forGo f g (xs.map e) L2
   | .ok .bk L2=>.ok .nx L2
   | r=>r) _ _ _ _
  cases ht:tb x v with
  | no=>trivial
  | er c z =>
   rw[ht]at h3;obtain⟨L3,h4,h5⟩:=h3
   try dsimp only at h4
   cases hg:g L1 with
   | ok o L2=>rw[hg]at h4;cases o<;>cases h4
   | stuck=>rw[hg]at h4;cases h4
   | err c' L2=>rw[hg]at h4;cases h4;exact⟨_,rfl,h5⟩
  | ok v' =>
   rw[ht]at h3;obtain⟨L3,h4,h5⟩:=h3
   try dsimp only at h4
   cases hg:g L1 with
   | stuck=>rw[hg]at h4;cases h4
   | err c' L2=>rw[hg]at h4;cases h4
   | ok o L2 =>
    rw[hg]at h4
    cases o<;>cases h4
    ·exact ih v' _ h5
    ·exact ih v' _ h5
def KB:Kont O:=⟨λ L=>.ok .nx L,λ s L=>.ok (.rt s) L,λ L=>.ok .bk L,λ L=>.ok .nx L⟩
def lpO (f:ρ->S):T.Lp ν ρ->O
 | .nx _=>.nx
 | .bk _=>.bk
 | .rt r=>.rt (f r)
def lpB (Bn:ν->LS)(Br:ρ->LS):T.Lp ν ρ->LS
 | .nx v=>Bn v
 | .bk v=>Bn v
 | .rt r=>Br r
theorem ad0 {f:D->LS->Option LS}{g:LS->R O}{e:α->D}{Inv:ν->LS}{Br:ρ->LS}{fr:ρ->S}{A1:α->ν->LS}{tb:α->ν->T ε (T.Lp ν ρ)}(hf:∀ x v,Tg (Inv v) f (e x) (A1 x v))(hb:∀ x v,SS (A1 x v) g KB (tb x v) (lpO fr) (lpB Inv Br) X) :
  ∀ (xs:List α) (v:ν),SK (Inv v) (forGo f g (xs.map e)) (T.forL xs v tb) (leO fr) (leB Inv Br) X
 | [],v=>λ L hL=>⟨L,rfl,hL⟩
 | x::xs,v=>λ L hL=>by
  obtain⟨L1,h1,h2⟩:=hf x v L hL
  have h3:=hb x v L1 h2
  have ih:=ad0 hf hb xs
  show SimR (forGo f g (e x::xs.map e) L) ((tb x v).bind _) _ _ _;unfold forGo;rw[h1]
  show SimR (match g L1 with
   | .ok .nx L2=>forGo f g (xs.map e) L2
   | .ok .ct L2=>forGo f g (xs.map e) L2
   | .ok .bk L2=>.ok .nx L2
   | r=>r) _ _ _ _
  cases ht:tb x v with
  | no=>trivial
  | er c z =>
   rw[ht]at h3;obtain⟨L3,h4,h5⟩:=h3
   try dsimp only at h4
   cases hg:g L1 with
   | ok o L2=>rw[hg]at h4;cases o<;>cases h4
   | stuck=>rw[hg]at h4;cases h4
   | err c' L2=>rw[hg]at h4;cases h4;exact⟨_,rfl,h5⟩
  | ok r =>
   rw[ht]at h3;obtain⟨L3,h4,h5⟩:=h3
   try dsimp only at h4
   cases hg:g L1 with
   | stuck=>rw[hg]at h4;cases h4
   | err c' L2=>rw[hg]at h4;cases h4
   | ok o L2 =>
    rw[hg]at h4
    cases r with
    | nx v' =>
     cases o<;>cases h4
     ·exact ih v' _ h5
     ·exact ih v' _ h5
    | bk v'=>cases o<;>cases h4;exact⟨_,rfl,h5⟩
    | rt r=>cases o<;>cases h4;exact⟨_,rfl,h5⟩
end
end VS
namespace VS
open PySem PySem.Spec PyProof.Rows L2
structure Tx where
 cs:List (Fin 1114112)
deriving DecidableEq
def Tx.s (x:Tx):Str:=⟨(x.cs.map (·.val)).toArray⟩
theorem Tx.s_list (x:Tx):x.s.cps.toList=x.cs.map (·.val):=by simp[Tx.s]
theorem Tx.s_len (x:Tx):x.s.length=x.cs.length:=by simp[Tx.s,Str.length]
theorem t7 {n:Nat}:∀ {a b:List (Fin n)},a.map (·.val)=b.map (·.val)->a=b
 | [],[],_=>rfl
 | [],_::_,h=>by cases h
 | _::_,[],h=>by cases h
 | x::a,y::b,h=>by
  rw[List.map_cons,List.map_cons]at h
  injection h with h1 h2
  rw[Fin.ext h1,t7 h2]
theorem Tx.s_inj {x y:Tx}(h:x.s=y.s):x=y:=by
 have h1:x.s.cps.toList=y.s.cps.toList:=by rw[h]
 rw[Tx.s_list,Tx.s_list]at h1;obtain⟨a⟩:=x;obtain⟨b⟩:=y;exact congrArg Tx.mk (t7 h1)
def Tx.of (l:List Nat):Tx:=⟨l.map λ n=>if h:n < 1114112 then⟨n,h⟩ else⟨0,by decide⟩⟩
theorem Tx.of_s {l:List Nat}(h:∀ c∈l,c < 1114112):(Tx.of l).s=⟨l.toArray⟩:=by
 unfold Tx.s Tx.of;rw[List.map_map]
 congr 2
 refine(List.map_congr_left (g:=id) λ c hc=>?_).trans (List.map_id _);show(if h:c < 1114112 then(⟨c,h⟩:Fin 1114112) else _).val=c;rw[dif_pos (h c hc)]
def tx (z:String):Tx:=⟨z.toList.map λ c=>⟨c.toNat,by
 have h:=c.valid
 rcases h with h | ⟨_,h⟩
 ·have:c.toNat < 0xd800:=h
  omega
 ·exact h⟩⟩
theorem anh (z:String):(tx z).s=Str.ofString z:=by
 rw[Str.ofString_eq_toList];unfold Tx.s tx;rw[List.map_map]
 rfl
def Tx.app (x y:Tx):Tx:=⟨x.cs++y.cs⟩
instance:Append Tx:=⟨Tx.app⟩
theorem Tx.app_cs (x y:Tx):(x++y).cs=x.cs++y.cs:=rfl
theorem Tx.app_s (x y:Tx):(x++y).s=x.s++y.s:=by
 show(⟨((x.cs++y.cs).map (·.val)).toArray⟩:Str)=⟨(x.cs.map (·.val)).toArray++(y.cs.map (·.val)).toArray⟩
 simp
structure Tp3 (α β γ:Type) where
 a:α
 b:β
 c:γ
deriving DecidableEq
structure Tp4 (α β γ δ:Type) where
 a:α
 b:β
 c:γ
 d:δ
deriving DecidableEq
structure Tp5 (α β γ δ ζ:Type) where
 a:α
 b:β
 c:γ
 d:δ
 e:ζ
deriving DecidableEq
abbrev PaL:=List (Tp3 Int (Tp4 Int Tx (Option Tx) Tx) (Option Int))
abbrev MoL:=List ((Tp4 Int Tx Tx Int)×(Option Int))
abbrev EvU:=Tp4 Int Tx (Option Tx) Tx
abbrev RkL:=List (Tp3 Tx Int Int)
abbrev MoU:=Tp4 Int Tx Tx Int
class Enc (α:Type) where
 enc:α->D
instance:Enc D:=⟨id⟩
instance:Enc Unit:=⟨λ _=>.none⟩
instance:Enc Int:=⟨.int⟩
instance:Enc Bool:=⟨.bool⟩
instance:Enc Tx:=⟨λ x=>.str x.s⟩
instance {α:Type}[Enc α]:Enc (List α):=⟨λ xs=>.list (xs.map Enc.enc)⟩
instance {α:Type}[Enc α]:Enc (Option α):=⟨λ x=>match x with
 | none=>.none
 | some a=>Enc.enc a⟩
instance {α β:Type}[Enc α][Enc β]:Enc (α×β):=⟨λ p=>.tuple [Enc.enc p.1,Enc.enc p.2]⟩
instance {α β γ:Type}[Enc α][Enc β][Enc γ]:Enc (Tp3 α β γ):=⟨λ p=>.tuple [Enc.enc p.a,Enc.enc p.b,Enc.enc p.c]⟩
instance {α β γ δ:Type}[Enc α][Enc β][Enc γ][Enc δ]:Enc (Tp4 α β γ δ):=⟨λ p=>.tuple [Enc.enc p.a,Enc.enc p.b,Enc.enc p.c,Enc.enc p.d]⟩
instance {α β γ δ ζ:Type}[Enc α][Enc β][Enc γ][Enc δ][Enc ζ]:Enc (Tp5 α β γ δ ζ):=⟨λ p=>.tuple [Enc.enc p.a,Enc.enc p.b,Enc.enc p.c,Enc.enc p.d,Enc.enc p.e]⟩
abbrev dv {α:Type}[Enc α](x:α):Option S:=some (.d (Enc.enc x))
abbrev lv {α:Type}[Enc α](xs:List α):Option S:=some (.ol (xs.map Enc.enc))
class Sh (α:Type)[Enc α][DecidableEq α] where
 dep:Nat
 nn:∀ x:α,Enc.enc x≠PyData.none
 lay:∀ x:α,(Enc.enc x).canLay0=true
 dp:∀ x:α,(Enc.enc x).depth<=dep
 eqv:∀ x y:α,(Enc.enc x).eqv (Enc.enc y)=decide (x=y)
theorem agO (x:Tx):PyData.strOk x.s=true:=by
 unfold PyData.strOk Tx.s
 simp only[List.all_toArray,List.all_map,List.all_eq_true]
 intro a _;exact decide_eq_true a.isLt
instance:Sh Int where
 dep:=0
 nn:=λ _ h=>by cases h
 lay:=λ _=>rfl
 dp:=λ _=>Nat.le_refl _
 eqv:=λ x y=>by
  show(x == y)=_
  exact Bool.beq_eq_decide_eq x y
instance:Sh Bool where
 dep:=0
 nn:=λ _ h=>by cases h
 lay:=λ _=>rfl
 dp:=λ _=>Nat.le_refl _
 eqv:=λ x y=>by
  show(x == y)=_
  exact Bool.beq_eq_decide_eq x y
instance:Sh Tx where
 dep:=0
 nn:=λ _ h=>by cases h
 lay:=λ x=>by
  show PyData.canLay0 (.str x.s)=true
  unfold PyData.canLay0
  exact agO x
 dp:=λ x=>Nat.le_of_eq (by
  show PyData.depth (.str x.s)=0
  unfold PyData.depth
  rfl)
 eqv:=λ x y=>by
  show(x.s == y.s)=_
  by_cases h:x=y
  ·subst h;simp
  ·rw[decide_eq_false h]
   exact beq_eq_false_iff_ne.mpr λ z=>h (Tx.s_inj z)
theorem layAll {α:Type}[Enc α][DecidableEq α][Sh α]:∀ xs:List α,PyData.canLayAll0 (xs.map Enc.enc)=true
 | []=>by unfold PyData.canLayAll0;rfl
 | x::xs=>by
  rw[List.map_cons];unfold PyData.canLayAll0;rw[Sh.lay x,layAll xs]
  rfl
theorem dpAll {α:Type}[Enc α][DecidableEq α][i:Sh α]:∀ xs:List α,PyData.depthAll (xs.map Enc.enc)<=i.dep
 | []=>by unfold PyData.depthAll;exact Nat.zero_le _
 | x::xs=>by
  rw[List.map_cons];unfold PyData.depthAll;exact Nat.max_le.mpr ⟨Sh.dp x,dpAll xs⟩
theorem eqvAll {α:Type}[Enc α][DecidableEq α][Sh α]:∀ xs ys:List α,PyData.eqvAll (xs.map Enc.enc) (ys.map Enc.enc)=decide (xs=ys)
 | [],[]=>by simp[PyData.eqvAll]
 | [],_::_=>by simp[PyData.eqvAll]
 | _::_,[]=>by simp[PyData.eqvAll]
 | x::xs,y::ys=>by
  rw[List.map_cons,List.map_cons];unfold PyData.eqvAll;rw[Sh.eqv x y,eqvAll xs ys]
  by_cases h1:x=y<;>by_cases h2:xs=ys<;>simp[h1,h2]
instance {α:Type}[Enc α][DecidableEq α][i:Sh α]:Sh (List α) where
 dep:=i.dep+1
 nn:=λ _ h=>by cases h
 lay:=λ xs=>by
  show PyData.canLay0 (.list (xs.map Enc.enc))=true
  unfold PyData.canLay0
  exact layAll xs
 dp:=λ xs=>by
  show PyData.depth (.list (xs.map Enc.enc))<=_
  unfold PyData.depth
  exact Nat.succ_le_succ (dpAll xs)
 eqv:=λ xs ys=>by
  show PyData.eqv (.list (xs.map Enc.enc)) (.list (ys.map Enc.enc))=_
  unfold PyData.eqv
  exact eqvAll xs ys
instance {α β:Type}[Enc α][DecidableEq α][i:Sh α][Enc β][DecidableEq β][j:Sh β]:Sh (α×β) where
 dep:=max i.dep j.dep+1
 nn:=λ _ h=>by cases h
 lay:=λ p=>by
  show PyData.canLay0 (.tuple [Enc.enc p.1,Enc.enc p.2])=true
  simp[PyData.canLay0,PyData.canLayAll0,Sh.lay p.1,Sh.lay p.2]
 dp:=λ p=>by
  show PyData.depth (.tuple [Enc.enc p.1,Enc.enc p.2])<=_
  have h1:=i.dp p.1
  have h2:=j.dp p.2
  simp only[PyData.depth,PyData.depthAll]
  omega
 eqv:=λ p q=>by
  show PyData.eqv (.tuple [Enc.enc p.1,Enc.enc p.2]) (.tuple [Enc.enc q.1,Enc.enc q.2])=_
  simp only[PyData.eqv,PyData.eqvAll,Sh.eqv,Bool.and_true]
  by_cases h1:p.1=q.1<;>by_cases h2:p.2=q.2<;>simp[h1,h2,Prod.ext_iff]
theorem ajN {α β γ:Type}{p q:Tp3 α β γ}:p=q↔p.a=q.a/\p.b=q.b/\p.c=q.c:=by cases p;cases q;simp
theorem ajO {α β γ δ:Type}{p q:Tp4 α β γ δ}:p=q↔p.a=q.a/\p.b=q.b/\p.c=q.c/\p.d=q.d:=by cases p;cases q;simp
instance {α β γ:Type}[Enc α][DecidableEq α][i:Sh α][Enc β][DecidableEq β][j:Sh β][Enc γ][DecidableEq γ][k:Sh γ]:Sh (Tp3 α β γ) where
 dep:=max i.dep (max j.dep k.dep)+1
 nn:=λ _ h=>by cases h
 lay:=λ p=>by
  show PyData.canLay0 (.tuple [Enc.enc p.a,Enc.enc p.b,Enc.enc p.c])=true
  simp[PyData.canLay0,PyData.canLayAll0,Sh.lay p.a,Sh.lay p.b,Sh.lay p.c]
 dp:=λ p=>by
  show PyData.depth (.tuple [Enc.enc p.a,Enc.enc p.b,Enc.enc p.c])<=_
  have h1:=i.dp p.a
  have h2:=j.dp p.b
  have h3:=k.dp p.c
  simp only[PyData.depth,PyData.depthAll]
  omega
 eqv:=λ p q=>by
  show PyData.eqv (.tuple [Enc.enc p.a,Enc.enc p.b,Enc.enc p.c]) (.tuple [Enc.enc q.a,Enc.enc q.b,Enc.enc q.c])=_
  simp only[PyData.eqv,PyData.eqvAll,Sh.eqv,Bool.and_true]
  have e:decide (p=q)=decide (p.a=q.a/\p.b=q.b/\p.c=q.c):=decide_eq_decide.mpr ajN
  rw[e]
  by_cases h1:p.a=q.a<;>by_cases h2:p.b=q.b<;>by_cases h3:p.c=q.c<;>simp[h1,h2,h3]
theorem agP {α:Type}[Enc α][DecidableEq α][i:Sh α](h:i.dep<=64)(x:α):SeqAt.shaped (Enc.enc x)=true:=by
 unfold SeqAt.shaped;rw[Sh.lay x,Bool.true_and];exact decide_eq_true (Nat.le_trans (Sh.dp x) h)
section
variable {α:Type}[Enc α][DecidableEq α][i:Sh α]
theorem vC (x y:α)(h:i.dep<=64:=by decide):dEq (Enc.enc x) (Enc.enc y)=some (.bool (decide (x=y))):=by
 unfold dEq;rw[if_pos (.inr ⟨agP h x,agP h y⟩),Sh.eqv]
theorem ad1 (x y:α)(h:i.dep<=64:=by decide):dNe (Enc.enc x) (Enc.enc y)=some (.bool (!decide (x=y))):=by
 unfold dNe;rw[if_pos (.inr ⟨agP h x,agP h y⟩),Sh.eqv]
theorem ad2 (d:D)(h:d≠.none):PyData.eqv .none d=false/\PyData.eqv d .none=false:=by
 cases d<;>first | exact absurd rfl h | (unfold PyData.eqv;exact⟨rfl,rfl⟩) | exact⟨by unfold PyData.eqv;rfl,by unfold PyData.eqv;rfl⟩
theorem ajP (x y:Option α):PyData.eqv (Enc.enc x) (Enc.enc y)=decide (x=y):=by
 cases x with
 | none =>
  cases y with
  | none =>
   show PyData.eqv .none .none=_;unfold PyData.eqv
   rfl
  | some b=>exact(ad2 _ (Sh.nn b)).1
 | some a =>
  cases y with
  | none=>exact(ad2 _ (Sh.nn a)).2
  | some b =>
   show PyData.eqv (Enc.enc a) (Enc.enc b)=_;rw[Sh.eqv];exact decide_eq_decide.mpr ⟨λ h=>by rw[h],λ h=>Option.some.inj h⟩
theorem ad3 (x:α):∀ ys:List α,(ys.map Enc.enc).any (λ z=>PyData.eqv z (Enc.enc x))=decide (x∈ys)
 | []=>by simp
 | y::ys=>by
  rw[List.map_cons,List.any_cons,ad3 x ys,Sh.eqv]
  by_cases h1:y=x
  ·simp[h1]
  ·have h2:¬ x=y:=λ z=>h1 z.symm
   simp[h1,h2]
def memT {α:Type}[DecidableEq α](x:α)(ys:List α):Bool:=decide (x∈ys)
omit [Enc α] i in
theorem eE (x:α)(ys:List α):memT x ys=true↔x∈ys:=by unfold memT;exact decide_eq_true_iff
end
section
variable {α β:Type}[Enc α][Enc β]
theorem agQ (xs:List α):dLen (.list (xs.map Enc.enc))=some (.int xs.length):=by
 show some (PyData.int ((xs.map Enc.enc).length:Int))=_;rw[List.length_map]
def lenT (x:Tx):Option Int:=if x.cs.length<=sizeLine then some x.cs.length else none
theorem ad4 (x:Tx):dLen (Enc.enc x)=(lenT x).map Enc.enc:=by
 show(if x.s.length<=sizeLine then some (PyData.int x.s.length) else none)=_;unfold lenT;rw[Tx.s_len]
 split<;>rfl
theorem aaj {α β:Type}(f:α->β)(xs:List α)(i:Int):atI (xs.map f) i=(atI xs i).map f:=by
 unfold atI;rw[List.length_map]
 cases ixN xs.length i with
 | none=>rfl
 | some j=>exact List.getElem?_map ..
theorem ad5 (xs:List α)(i:Int):dIx (.list (xs.map Enc.enc)) (.int i)=(atI xs i).map Enc.enc:=aaj _ _ _
def txAt (x:Tx)(i:Int):Option Tx:=if x.cs.length<=sizeLine then(atI x.cs i).map λ c=>⟨[c]⟩ else none
theorem aph (x:Tx)(i:Int):dIx (Enc.enc x) (.int i)=(txAt x i).map Enc.enc:=by
 show(if x.s.length<=sizeLine then(atI x.s.cps.toList i).map λ k=>PyData.str ⟨#[k]⟩ else none)=_;unfold txAt;rw[Tx.s_len,Tx.s_list]
 split
 ·rw[aaj,Option.map_map,Option.map_map]
  rfl
 ·rfl
def cutT {α:Type}(xs:List α)(lo hi:Option Int):List α:=(xs.drop (HT.sIx xs.length 0 lo)).take (HT.sIx xs.length xs.length hi - HT.sIx xs.length 0 lo)
theorem ad6 (xs:List α)(lo hi:Option Int):dSl (.list (xs.map Enc.enc)) lo hi=some (.ol ((cutT xs lo hi).map Enc.enc)):=by
 show some (S.ol (cutD (xs.map Enc.enc) lo hi))=_;unfold cutD cutT;rw[List.length_map,List.map_take,List.map_drop]
def catT {α:Type}(xs ys:List α):Option (List α):=if xs.length+ys.length<=sizeLine then some (xs++ys) else none
theorem aak (xs ys:List α):dAdd (.list (xs.map Enc.enc)) (.list (ys.map Enc.enc))=(catT xs ys).map λ z=>S.ol (z.map Enc.enc):=by
 rw[acx,List.length_map,List.length_map];unfold catT
 split
 ·simp
 ·rfl
def catS (x y:Tx):Option Tx:=if x.cs.length+y.cs.length<=sizeLine then some (x++y) else none
theorem cat_t (x y:Tx):dAdd (Enc.enc x) (Enc.enc y)=(catS x y).map λ z=>S.d (Enc.enc z):=by
 show dAdd (.str x.s) (.str y.s)=_;rw[aaN,Tx.s_len,Tx.s_len];unfold catS
 split
 ·show some (S.d (.str (x.s++y.s)))=some (S.d (.str (x++y).s));rw[Tx.app_s]
 ·rfl
@[irreducible] def repT {α:Type}(xs:List α)(k:Int):Option (List α):=if repOk xs.length k=true then some (List.replicate k.toNat xs).flatten else none
end
section
variable {A:LS}{α β:Type}
theorem jr {d:D}:Pu A (gC d) d:=λ _ _=>rfl
theorem aV (z:String):Pu A (gC (.str z)) (Enc.enc (tx z)):=λ L _=>by
 show R.ok (PyData.str (Str.ofString z)) L=R.ok (PyData.str (tx z).s) L;rw[anh]
theorem bA {i:Nat}{d:D}(h:A[i]?=some (some (.d d))):Pu A (gVar i) d:=λ L hL=>by
 unfold gVar;rw[hL.2 i _ h]
theorem aW {i:Nat}{d:D}(h:A[i]?=some (some (.d d))):Pu A (gPeek i) d:=λ L hL=>by
 unfold gPeek;rw[hL.2 i _ h]
theorem jh {i:Nat}{ds:List D}(h:A[i]?=some (some (.ol ds))):Pu A (gPeek i) (.list ds):=λ L hL=>by
 unfold gPeek;rw[hL.2 i _ h]
theorem agR {g:LS->R D}{d:D}(h:Pu A g d):Pu A (gD g) (.d d):=λ L hL=>by
 show(g L).bind _=_;rw[h L hL]
 rfl
theorem aoz {g:LS->R S}{d:D}(h:Pu A g (.d d)):Pu A (gFz g) d:=λ L hL=>by
 show(g L).bind frS=_;rw[h L hL]
 rfl
theorem qm {g:LS->R S}{ds:List D}(h:Pu A g (.ol ds)):Pu A (gFz g) (.list ds):=λ L hL=>by
 show(g L).bind frS=_;rw[h L hL]
 rfl
theorem aal {f:D->D->Option α}{ga gb:LS->R D}{d e:D}{z:α}(ha:Pu A ga d)(hb:Pu A gb e)(h:f d e=some z):Pu A (gOp f ga gb) z:=λ L hL=>by
 show(ga L).bind _=_;rw[ha L hL];show(gb L).bind _=_;rw[hb L hL];show ofO (f d e) L=_;rw[h]
 rfl
theorem wF {f:D->Option α}{ga:LS->R D}{d:D}{z:α}(ha:Pu A ga d)(h:f d=some z):Pu A (gUn f ga) z:=λ L hL=>by
 show(ga L).bind _=_;rw[ha L hL];show ofO (f d) L=_;rw[h]
 rfl
theorem ajQ {g:LS->R D}{b:Bool}(h:Pu A g (.bool b)):Pu A (gB g) b:=λ L hL=>by
 show(g L).bind asB=_;rw[h L hL]
 rfl
theorem lE:Pu A gNil []:=λ _ _=>rfl
theorem bO {a:LS->R D}{r:LS->R (List D)}{d:D}{ds:List D}(h1:Pu A a d)(h2:Pu A r ds):Pu A (gCons a r) (d::ds):=λ L hL=>by
 show(a L).bind _=_;rw[h1 L hL];show(r L).bind _=_;rw[h2 L hL]
 rfl
theorem t8 {a:LS->R (List D)}{ds:List D}(h:Pu A a ds)(hl:ds.length<=1000:=by decide):Pu A (gLst a) (.ol ds):=λ L hL=>by
 show(a L).bind _=_;rw[h L hL];exact if_pos (Nat.le_trans hl (by rw[PySem.sizeLine_eq];decide))
theorem ad7:Pu A gNo none:=λ _ _=>rfl
theorem wG {g:LS->R D}{i:Int}(h:Pu A g (.int i)):Pu A (gSo g) (some i):=λ L hL=>by
 show(g L).bind asI=_;rw[h L hL]
 rfl
theorem ad8 {ga:LS->R D}{lo hi:LS->R (Option Int)}{d:D}{l u:Option Int}{s:S}(h:Pu A ga d)(h1:Pu A lo l)(h2:Pu A hi u)(hs:dSl d l u=some s):Pu A (gSl ga lo hi) s:=λ L hL=>by
 show(ga L).bind _=_;rw[h L hL];show(lo L).bind _=_;rw[h1 L hL];show(hi L).bind _=_;rw[h2 L hL];show ofO (dSl d l u) L=_;rw[hs]
 rfl
def signsT (x:Tx):List Tx:=x.cs.map λ c=>⟨[c]⟩
def rangeT (n:Nat):List Int:=(List.range n).map λ(k:Nat)=>(k:Int)
theorem ajR (n:Nat):intsD 0 n=(rangeT n).map Enc.enc:=by
 unfold intsD rangeT;rw[List.map_map];refine List.map_congr_left λ k _=>?_;show PyData.int (0+(k:Int))=PyData.int (k:Int);rw[Int.zero_add]
def inR (j:Int):Prop:=-4611686018427387904<=j/\j < 4611686018427387904
instance (j:Int):Decidable (inR j):=by
 unfold inR
 exact inferInstance
theorem amq {j:Int}(h:inR j):-(2 ^ 62)<=j/\j < 2 ^ 62:=by
 unfold inR at h
 omega
theorem amr {j:Int}(h0:-1000000000<=j)(h1:j<=1000000000):inR j:=by
 unfold inR
 omega
end
section
variable {ε ε' α β γ δ ω ν ρ:Type}{A A':LS}{F:β->ω}{B:β->LS}{X:ε->LS}{t:T ε β}
def appEnd (i:Nat)(d:D)(L1:LS):R S:=gOwnL i (λ ds L2=>if ds.length < sizeLine then .ok (.d .none) (L2.set i (some (.ol (ds++[d])))) else .stuck) L1
theorem agS {i:Nat}{ds:List D}{g:LS->R D}{k:S->LS->R ω}(h:A[i]?=some (some (.ol ds)))(h2:SK A (λ L=>(g L).bind λ d L1=>(appEnd i d L1).bind k) t F B X):SK A (λ L=>(gApp i g L).bind k) t F B X:=λ L hL=>by
 have h3:=h2 L hL
 show SimR ((gApp i g L).bind k) t F B X;unfold gApp gOwnL;rw[hL.2 i _ h];show SimR (((g L).bind λ d L1=>appEnd i d L1).bind k) t F B X;rw[aQ];exact h3
theorem agT [Enc α]{i:Nat}{xs:List α}{x:α}{k:S->LS->R ω}{A':LS}(h:A[i]?=some (some (.ol (xs.map Enc.enc))))(hA:A.set i (some (.ol ((xs++[x]).map Enc.enc)))=A')(h2:SK A' (k (.d .none)) t F B X):SK A (λ L=>(appEnd i (Enc.enc x) L).bind k) (T.gd (xs.length < sizeLine) t) F B X:=akR λ hs L hL=>by
 show SimR ((appEnd i (Enc.enc x) L).bind k) t F B X;unfold appEnd gOwnL;rw[hL.2 i _ h];show SimR ((if(xs.map Enc.enc).length < sizeLine then R.ok (S.d .none) (L.set i (some (.ol (xs.map Enc.enc++[Enc.enc x])))) else .stuck).bind k) t F B X;rw[List.length_map,if_pos hs];refine h2 _ ?_;rw[←hA,List.map_append];exact hL.set i _
def setT {α:Type}(xs:List α)(k:Int)(x:α):Option (List α):=(ixN xs.length k).map λ j=>xs.set j x
theorem qp {i:Nat}{s:S}{gb:LS->R D}{k:D->LS->R ω}(h:A[i]?=some (some s))(h2:SK A (λ L=>(gb L).bind λ e L1=>(gPeek i L1).bind λ d L2=>(ofO (dIx d e) L2).bind k) t F B X):SK A (λ L=>(gIxP i gb L).bind k) t F B X:=λ L hL=>by
 have h3:=h2 L hL
 show SimR ((gIxP i gb L).bind k) t F B X;unfold gIxP;rw[hL.2 i _ h];show SimR (((gb L).bind λ e L1=>(gPeek i L1).bind λ d L2=>ofO (dIx d e) L2).bind k) t F B X;rw[aQ]
 dsimp only at h3
 cases e:gb L with
 | stuck=>rw[e]at h3;exact h3
 | err c L1=>rw[e]at h3;exact h3
 | ok z L1 =>
  rw[e]at h3;show SimR (((gPeek i L1).bind λ d L2=>ofO (dIx d z) L2).bind k) t F B X;rw[aQ];exact h3
theorem ao3 {ga:LS->R D}{lo hi:LS->R (Option Int)}{k:S->LS->R ω}(h:SK A (λ L=>(ga L).bind λ d L1=>(lo L1).bind λ l L2=>(hi L2).bind λ u L3=>(ofO (dSl d l u) L3).bind k) t F B X):SK A (λ L=>(gSl ga lo hi L).bind k) t F B X:=λ L hL=>by
 have h:=h L hL
 dsimp only at h
 show SimR (((ga L).bind λ d L1=>(lo L1).bind λ l L2=>(hi L2).bind λ u L3=>ofO (dSl d l u) L3).bind k) t F B X;rw[aQ]
 cases e:ga L with
 | stuck=>rw[e]at h;exact h
 | err c L1=>rw[e]at h;exact h
 | ok d L1 =>
  rw[e]at h;show SimR (((lo L1).bind λ l L2=>(hi L2).bind λ u L3=>ofO (dSl d l u) L3).bind k) t F B X;rw[aQ]
  have h:SimR ((lo L1).bind λ l L2=>(hi L2).bind λ u L3=>(ofO (dSl d l u) L3).bind k) t F B X:=h
  cases e2:lo L1 with
  | stuck=>rw[e2]at h;exact h
  | err c L2=>rw[e2]at h;exact h
  | ok l L2 =>
   rw[e2]at h;show SimR (((hi L2).bind λ u L3=>ofO (dSl d l u) L3).bind k) t F B X;rw[aQ];exact h
theorem ahR {ga gb:LS->R D}{k:D->LS->R ω}{z:Str}(h1:Pu A ga (.str z))(h:SK A (λ L=>(gb L).bind λ e L2=>(ofO (dJoin (.str z) e) L2).bind k) t F B X):SK A (λ L=>(gJoin ga gb L).bind k) t F B X:=λ L hL=>by
 have h:=h L hL
 show SimR (((ga L).bind (gTxt λ a L1=>(gb L1).bind λ e L2=>ofO (dJoin (.str a) e) L2)).bind k) t F B X;rw[h1 L hL];show SimR (((gb L).bind λ e L2=>ofO (dJoin (.str z) e) L2).bind k) t F B X;rw[aQ];exact h
theorem ajS {ga gb:LS->R D}{k:D->LS->R ω}{ds:List D}(h1:Pu A ga (.list ds))(h:SK A (λ L=>(gb L).bind λ e L2=>(ofO (dCount (.list ds) e) L2).bind k) t F B X):SK A (λ L=>(gCount ga gb L).bind k) t F B X:=λ L hL=>by
 have h:=h L hL
 show SimR (((ga L).bind (cntL gb)).bind k) t F B X;rw[h1 L hL];show SimR (((gb L).bind λ e L2=>ofO (dCount (.list ds) e) L2).bind k) t F B X;rw[aQ];exact h
class EncK (κ:Type) where
 ks:κ->List Key
 inj:∀ a b,ks a=ks b->a=b
class Enc1 (κ:Type) where
 k1:κ->Key
 inj:∀ a b,k1 a=k1 b->a=b
instance:Enc1 Int:=⟨.inl,λ _ _ h=>Sum.inl.inj h⟩
instance:Enc1 Tx:=⟨λ x=>.inr x.s,λ _ _ h=>Tx.s_inj (Sum.inr.inj h)⟩
instance {κ μ:Type}[Enc1 κ][Enc1 μ]:EncK (κ×μ):=⟨λ p=>[Enc1.k1 p.1,Enc1.k1 p.2],λ a b h=>by
 injection h with h1 h2
 injection h2 with h2 _
 exact Prod.ext (Enc1.inj _ _ h1) (Enc1.inj _ _ h2)⟩
class KD1 (κ:Type)[Enc κ][Enc1 κ]:Prop where
 eq:∀ x:κ,keyD (Enc.enc x)=some (Enc1.k1 x)
class KDs (κ:Type)[Enc κ][EncK κ]:Prop where
 eq:∀ x:κ,keysD (Enc.enc x)=some (EncK.ks x)
instance:KD1 Int:=⟨λ _=>rfl⟩
instance:KD1 Tx:=⟨λ _=>rfl⟩
instance {κ μ:Type}[Enc κ][Enc1 κ][KD1 κ][Enc μ][Enc1 μ][KD1 μ]:KDs (κ×μ):=⟨λ p=>by
 show(keyD (Enc.enc p.1)).bind (λ k=>((keyD (Enc.enc p.2)).bind λ k=>((some []:Option (List Key)).map (k::·))).map (k::·))=_
 rw[KD1.eq p.1,KD1.eq p.2]
 rfl⟩
abbrev Dt (κ α:Type):=List (κ×α)
def dget {κ:Type}[DecidableEq κ](d:Dt κ α)(k:κ):Option α:=(d.find? λ p=>decide (p.1=k)).map (·.2)
def dput {κ:Type}[DecidableEq κ](d:Dt κ α)(k:κ)(v:α):Dt κ α:=if(d.any λ p=>decide (p.1=k))=true then d.map (λ p=>if p.1=k then(p.1,v) else p) else d++[(k,v)]
def abV {κ α:Type}[Enc1 κ][Enc α](d:Dt κ α):List (Key×D):=d.map λ p=>(Enc1.k1 p.1,Enc.enc p.2)
abbrev kv {κ α:Type}[Enc1 κ][Enc α](d:Dt κ α):Option S:=some (.odK (abV d))
theorem ad9 {κ μ:Type}[DecidableEq κ][DecidableEq μ][Enc α](f:κ->μ)(hf:∀ a b,f a=f b->a=b)(k:κ):∀ d:Dt κ α,valK (d.map λ p=>(f p.1,Enc.enc p.2)) (f k)=(dget d k).map Enc.enc
 | []=>rfl
 | p::d=>by
  have ih:=ad9 f hf k d
  unfold valK dget at *
  by_cases h:p.1=k
  ·rw[List.map_cons,List.find?_cons_of_pos (l:=d.map λ p=>(f p.1,Enc.enc p.2)) (by simp[h]),List.find?_cons_of_pos (l:=d) (by simp[h])]
   rfl
  ·have h':¬ f p.1=f k:=λ z=>h (hf _ _ z)
   rw[List.map_cons,List.find?_cons_of_neg (l:=d.map λ p=>(f p.1,Enc.enc p.2)) (by simp[h']),List.find?_cons_of_neg (l:=d) (by simp[h])];exact ih
section
variable {κ:Type}[DecidableEq κ][Enc κ][Enc α]{i:Nat}{d:Dt κ α}{x:κ}
theorem agU [Enc1 κ][KD1 κ]{L:LS}(h:L[i]?=some (kv d)):dictAt L[i]? (Enc.enc x)=some ((dget d x).map Enc.enc):=by
 rw[h];show(keyD (Enc.enc x)).map (valK (abV d))=_;rw[KD1.eq x];exact congrArg some (ad9 Enc1.k1 Enc1.inj x d)
end
def lcBody (gt:LS->R Bool)(ge:LS->R D):LS->R (Option D):=λ L=>(gt L).bind λ b L1=>if b=true then(ge L1).bind λ y L2=>.ok (some y) L2 else .ok none L1
theorem Mt.wipe {A L:LS}(h:Mt A L):∀ vs:List Nat,Mt (wipeL A vs) (wipeL L vs)
 | []=>h
 | v::vs=>(h.wipe vs).set v none
def T.lcM' {ε ε' α β ν:Type}:List α->List β->ν->(α->ν->T ε' (Option β×ν))->T ε (List β×ν)
 | [],acc,v,_=>.ok (acc,v)
 | x::xs,acc,v,f=>match f x v with
  | .ok (some y,v')=>T.gd (acc.length < sizeLine) (T.lcM' xs (acc++[y]) v' f)
  | .ok (none,v')=>T.lcM' xs acc v' f
  | _=>.no
theorem ahS [Enc γ]{vs:List Nat}{f:D->LS->Option LS}{gt:LS->R Bool}{ge:LS->R D}{e:α->D}{Inv:ν->LS}{A1:α->ν->LS}{Bv:ν->LS}{Xe:ε'->LS}{tb:α->ν->T ε' (Option γ×ν)}(hf:∀ x v,Tg (Inv v) f (e x) (A1 x v))
  (hb:∀ x v,SK (A1 x v) (lcBody gt ge) (tb x v) (λ p=>p.1.map Enc.enc) (λ p=>Bv p.2) Xe) (hw:∀ v,Mt (Inv v) (wipeL (Bv v) vs)) :
  ∀ (xs:List α) (acc:List γ) (v:ν),SK (Inv v) (lcGo vs f gt ge (xs.map e) (acc.map Enc.enc)) (T.lcM' xs acc v tb) (λ p:List γ×ν=>S.ol (p.1.map Enc.enc)) (λ p=>Inv p.2) X
 | [],acc,v=>λ L hL=>⟨L,rfl,hL⟩
 | x::xs,acc,v=>λ L hL=>by
  obtain⟨L1,h1,h2⟩:=hf x v L hL
  have h3:=hb x v L1 h2
  have ih:=ahS hf hb hw xs
  show SimR (lcGo vs f gt ge (e x::xs.map e) (acc.map Enc.enc) L) (match tb x v with
   | .ok (some y,v')=>T.gd (acc.length < sizeLine) (T.lcM' xs (acc++[y]) v' tb)
   | .ok (none,v')=>T.lcM' xs acc v' tb
   | _=>.no) _ _ _
  unfold lcGo;rw[h1]
  show SimR (match gt L1 with
   | .ok b L2=>if b=true then(match ge L2 with
     | .ok y L3=>if(acc.map Enc.enc).length < sizeLine then lcGo vs f gt ge (xs.map e) (acc.map Enc.enc++[y]) (wipeL L3 vs) else .stuck
     | _=>.stuck) else lcGo vs f gt ge (xs.map e) (acc.map Enc.enc) (wipeL L2 vs)
   | _=>.stuck) _ _ _ _
  cases ht:tb x v with
  | no=>trivial
  | er c z=>trivial
  | ok p =>
   rw[ht]at h3;obtain⟨o,v'⟩:=p;obtain⟨L3,h4,h5⟩:=h3;unfold lcBody at h4
   cases hg:gt L1 with
   | stuck=>rw[hg]at h4;cases h4
   | err c' L2=>rw[hg]at h4;cases h4
   | ok b L2 =>
    rw[hg]at h4
    cases b with
    | false =>
     have h4:(R.ok none L2:R (Option D))=.ok (o.map Enc.enc) L3:=h4
     injection h4 with h6 h7
     cases o with
     | some y=>cases h6
     | none =>
      subst h7
      exact ih acc v' _ ((hw v').trans (h5.wipe vs))
    | true =>
     have h4:((ge L2).bind λ y L2=>(R.ok (some y) L2:R (Option D)))=.ok (o.map Enc.enc) L3:=h4
     cases hge:ge L2 with
     | stuck=>rw[hge]at h4;cases h4
     | err c' L2=>rw[hge]at h4;cases h4
     | ok y L4 =>
      rw[hge]at h4
      injection h4 with h6 h7
      cases o with
      | none=>cases h6
      | some y' =>
       subst h7
       have hy:y=Enc.enc y':=Option.some.inj h6
       subst hy
       show SimR (match ge L2 with
        | .ok y L3=>if(acc.map Enc.enc).length < sizeLine then lcGo vs f gt ge (xs.map e) (acc.map Enc.enc++[y]) (wipeL L3 vs) else .stuck
        | _=>.stuck) (T.gd (acc.length < sizeLine) (T.lcM' xs (acc++[y']) v' tb)) _ _ _
       rw[hge];show SimR (if(acc.map Enc.enc).length < sizeLine then lcGo vs f gt ge (xs.map e) (acc.map Enc.enc++[Enc.enc y']) (wipeL L4 vs) else .stuck) (T.gd (acc.length < sizeLine) (T.lcM' xs (acc++[y']) v' tb)) _ _ _;unfold T.gd;rw[List.length_map]
       by_cases hs:acc.length < sizeLine
       ·rw[if_pos hs,if_pos hs]
        have:=ih (acc++[y']) v' _ ((hw v').trans (h5.wipe vs))
        rw[List.map_append]at this;exact this
       ·rw[if_neg hs,if_neg hs]
        trivial
def T.lc {ε ε' α β ν:Type}(xs:List α)(v:ν)(f:α->ν->T ε' (Option β×ν)):T ε (List β×ν):=T.lcM' xs [] v f
def T.lcp {ε α β:Type}(xs:List α)(p:α->Bool)(h:α->β):T ε (List β):=if xs.length<=sizeLine then .ok ((xs.filter p).map h) else .no
end
section
variable {ε ε' α β γ δ ω ν ρ:Type}{A A':LS}{F:β->ω}{B:β->LS}{X:ε->LS}{t:T ε β}
abbrev XV:Empty->LS:=λ e=>e.elim
def T.up {ε α:Type}(t:T Empty α):T ε α:=t.lift Empty.elim
theorem T.up_ok {ε α:Type}(a:α):(T.up (.ok a):T ε α)=.ok a:=rfl
theorem cO {X G:Empty->LS}:∀ e:Empty,Mt (X e) (G e):=λ e=>e.elim
def orQ (x:Bool)(b:LS->R Bool):LS->R Bool:=λ L=>if x=true then .ok true L else b L
def andQ (x:Bool)(b:LS->R Bool):LS->R Bool:=λ L=>if x=true then b L else .ok false L
theorem abW {a b:LS->R Bool}{k:Bool->LS->R ω}(h:SK A (λ L=>(a L).bind λ x L1=>(orQ x b L1).bind k) t F B X):SK A (λ L=>(gOr a b L).bind k) t F B X:=fO h
theorem ams {a b:LS->R Bool}{k:Bool->LS->R ω}(h:SK A (λ L=>(a L).bind λ x L1=>(andQ x b L1).bind k) t F B X):SK A (λ L=>(gAnd a b L).bind k) t F B X:=fO h
theorem akS {b:LS->R Bool}{x:Bool}{k:Bool->LS->R ω}{t1 t2:T ε β}(h1:SK A (k true) t1 F B X)(h2:SK A (λ L=>(b L).bind k) t2 F B X):SK A (λ L=>(orQ x b L).bind k) (if x=true then t1 else t2) F B X:=by
 cases x with
 | true=>exact h1
 | false=>exact h2
theorem aoA {b:LS->R Bool}{x:Bool}{k:Bool->LS->R ω}{t1 t2:T ε β}(h1:SK A (λ L=>(b L).bind k) t1 F B X)(h2:SK A (k false) t2 F B X):SK A (λ L=>(andQ x b L).bind k) (if x=true then t1 else t2) F B X:=by
 cases x with
 | true=>exact h1
 | false=>exact h2
theorem nM {g:LS->R D}{k:List D->LS->R ω}(h:SK A (λ L=>(g L).bind λ d L1=>(fG d L1).bind k) t F B X):SK A (λ L=>((g L).bind fG).bind k) t F B X:=fO h
theorem aba {x:Tx}{k:List D->LS->R ω}(h:SK A (k ((signsT x).map Enc.enc)) t F B X):SK A (λ L=>(fG (Enc.enc x) L).bind k) t F B X:=λ L hL=>by
 have h:=h L hL
 have e:(signs x.s)=(signsT x).map Enc.enc:=by
  unfold signs signsT;rw[Tx.s_list,List.map_map,List.map_map]
  rfl
 show SimR ((R.ok (signs x.s) L).bind k) t F B X;rw[e];exact h
theorem ahT {g:LS->R (List D)}{k:List D->LS->R ω}(h:SK A (λ L=>(g L).bind λ d L1=>(abC d L1).bind k) t F B X):SK A (λ L=>((g L).bind abC).bind k) t F B X:=fO h
theorem ahU {n:Int}{k:List D->LS->R ω}(h:SK A (k ((rangeT n.toNat).map Enc.enc)) t F B X):SK A (λ L=>(abC [Enc.enc n] L).bind k) (T.gd (inR n) t) F B X:=akR λ hn L hL=>by
 have h:=h L hL
 show SimR ((if -(2 ^ 62)<=n/\n < 2 ^ 62 then R.ok (intsD 0 n.toNat) L else .stuck).bind k) t F B X;rw[if_pos (amq hn),ajR];exact h
theorem vD {K:Kont ω}{gi:LS->R (List D)}{f:D->LS->Option LS}{g:LS->R O}(h:SK A (λ L=>(gi L).bind λ ds L1=>fin K (forGo f g ds L1)) t F B X):SS A (gFor gi f g) K t F B X:=vB h
theorem aea {K:Kont ω}{f:D->LS->Option LS}{g:LS->R O}{e:α->D}{xs:List α}{v:ν}{t':ν->T ε β}(Inv:ν->LS)(A1:α->ν->LS){tb:α->ν->T ε ν}(h0:Mt (Inv v) A)(hf:∀ x v,Tg (Inv v) f (e x) (A1 x v))(hb:∀ x v,SS (A1 x v) g KL (tb x v) (λ _=>()) Inv X)
  (h:∀ v,SK (Inv v) K.nx (t' v) F B X):SK A (λ L=>fin K (forGo f g (xs.map e) L)) ((T.forM xs v tb).bind t') F B X:=λ L hL=>by
 have h1:=adZ hf hb xs v L (h0.trans hL)
 show SimR (fin K (forGo f g (xs.map e) L)) _ F B X
 cases ht:T.forM xs v tb with
 | no=>trivial
 | er c z =>
  rw[ht]at h1;obtain⟨L3,h4,h5⟩:=h1;rw[h4];exact⟨_,rfl,h5⟩
 | ok v' =>
  rw[ht]at h1;obtain⟨L3,h4,h5⟩:=h1;rw[h4];exact h v' _ h5
theorem amt {K:Kont ω}{f:D->LS->Option LS}{g:LS->R O}{e:α->D}{xs:List α}{v:ν}{tn:ν->T ε β}{tr:ρ->T ε β}(Inv:ν->LS)(Br:ρ->LS)(fr:ρ->S)(A1:α->ν->LS){tb:α->ν->T ε (T.Lp ν ρ)}(h0:Mt (Inv v) A)(hf:∀ x v,Tg (Inv v) f (e x) (A1 x v))(hb:∀ x v,SS (A1 x v) g KB (tb x v) (lpO fr) (lpB Inv Br) X)
  (h:∀ v,SK (Inv v) K.nx (tn v) F B X) (h3:∀ r,SK (Br r) (λ L=>K.rt (fr r) L) (tr r) F B X):SK A (λ L=>fin K (forGo f g (xs.map e) L)) (T.bindL (T.forL xs v tb) tn tr) F B X:=λ L hL=>by
 have h1:=ad0 hf hb xs v L (h0.trans hL)
 show SimR (fin K (forGo f g (xs.map e) L)) _ F B X
 cases ht:T.forL xs v tb with
 | no=>trivial
 | er c z =>
  rw[ht]at h1;obtain⟨L3,h4,h5⟩:=h1;rw[h4];exact⟨_,rfl,h5⟩
 | ok z =>
  rw[ht]at h1;obtain⟨L3,h4,h5⟩:=h1;rw[h4]
  cases z with
  | nx v'=>exact h v' _ h5
  | rt r=>exact h3 r _ h5
def lcQ (vs:List Nat)(f:D->LS->Option LS)(gt:LS->R Bool)(ge:LS->R D)(ds:List D)(L1:LS):R S:=lcGo vs f gt ge ds [] (wipeL L1 vs)
theorem ajT {vs:List Nat}{gi:LS->R (List D)}{f:D->LS->Option LS}{gt:LS->R Bool}{ge:LS->R D}{k:S->LS->R ω}(h:SK A (λ L=>(gi L).bind λ ds L1=>(lcQ vs f gt ge ds L1).bind k) t F B X):SK A (λ L=>(gLc vs gi f gt ge L).bind k) t F B X:=fO h
theorem ao4 [Enc γ]{vs:List Nat}{f:D->LS->Option LS}{gt:LS->R Bool}{ge:LS->R D}{e:α->D}{xs:List α}{v:ν}{k:S->LS->R ω}(Inv:ν->LS)(A1:α->ν->LS)(Bv:ν->LS)(Xe:ε'->LS){tb:α->ν->T ε' (Option γ×ν)}{t':List γ×ν->T ε β}(h0:Mt (Inv v) (wipeL A vs))(hf:∀ x v,Tg (Inv v) f (e x) (A1 x v))
  (hb:∀ x v,SK (A1 x v) (lcBody gt ge) (tb x v) (λ p=>p.1.map Enc.enc) (λ p=>Bv p.2) Xe) (hw:∀ v,Mt (Inv v) (wipeL (Bv v) vs)) (h2:∀ ys v,SK (Inv v) (k (.ol (ys.map Enc.enc))) (t' (ys,v)) F B X) :
  SK A (λ L=>(lcQ vs f gt ge (xs.map e) L).bind k) ((T.lc xs v tb).bind t') F B X:=λ L hL=>by
 have h1:=ahS (X:=X) hf hb hw xs [] v (wipeL L vs) (h0.trans (hL.wipe vs))
 show SimR ((lcGo vs f gt ge (xs.map e) [] (wipeL L vs)).bind k) ((T.lcM' xs [] v tb).bind t') F B X
 cases ht:(T.lcM' xs [] v tb:T ε _) with
 | no=>trivial
 | er c z =>
  rw[ht]at h1;obtain⟨L3,h4,h5⟩:=h1;exact absurd h4 (rY _ _ _)
 | ok p =>
  rw[ht]at h1;obtain⟨ys,v'⟩:=p;obtain⟨L3,h4,h5⟩:=h1;rw[List.map_nil]at h4;rw[h4];exact h2 ys v' _ h5
def T.lcs {ε ε' α β:Type}(xs:List α)(f:α->T ε' (Option β)):T ε (List β):=(T.lc xs () λ x _=>(f x).bind λ y=>.ok (y,())).bind λ p=>.ok p.1
theorem amu [Enc γ]{vs:List Nat}{f:D->LS->Option LS}{gt:LS->R Bool}{ge:LS->R D}{e:α->D}{xs:List α}{k:S->LS->R ω}(A0:LS)(A1:α->LS)(Bv:LS)(Xe:ε'->LS){tb:α->T ε' (Option γ)}{t':List γ->T ε β}(h0:Mt A0 (wipeL A vs))(hf:∀ x,Tg A0 f (e x) (A1 x))
  (hb:∀ x,SK (A1 x) (lcBody gt ge) (tb x) (λ p=>p.map Enc.enc) (λ _=>Bv) Xe) (hw:Mt A0 (wipeL Bv vs)) (h2:∀ ys,SK A0 (k (.ol (ys.map Enc.enc))) (t' ys) F B X) :
  SK A (λ L=>(lcQ vs f gt ge (xs.map e) L).bind k) ((T.lcs xs tb).bind t') F B X:=by
 have h:=ao4 (X:=X) (F:=F) (B:=B) (A:=A) (v:=()) (k:=k) (xs:=xs) (e:=e) (vs:=vs) (f:=f) (gt:=gt) (ge:=ge) (λ _:Unit=>A0) (λ x _=>A1 x) (λ _=>Bv) Xe (tb:=λ x _=>(tb x).bind λ y=>.ok (y,())) (t':=λ p=>t' p.1) h0 (λ x _=>hf x) (λ x _ L hL=>by
  have h3:=hb x L hL
  cases ht:tb x with
  | no=>trivial
  | er c z=>rw[ht]at h3;exact h3
  | ok y=>rw[ht]at h3;exact h3) (λ _=>hw) (λ ys _=>h2 ys)
 unfold T.lcs
 have e2:((T.lc xs () λ x _=>(tb x).bind λ y=>(.ok (y,()):T ε' _)).bind λ p=>(.ok p.1:T ε _)).bind t'=(T.lc xs () λ x _=>(tb x).bind λ y=>(.ok (y,()):T ε' _)).bind λ p=>t' p.1:=by
  cases (T.lc xs () λ x _=>(tb x).bind λ y=>(.ok (y,()):T ε' _):T ε _)<;>rfl
 rw[e2];exact h
theorem yH:Pu A gYes true:=λ _ _=>rfl
theorem amv {gt:LS->R Bool}{ge:LS->R D}{k:Option D->LS->R ω}(h:SK A (λ L=>(gt L).bind λ b L1=>(if b=true then(ge L1).bind λ y L2=>R.ok (some y) L2 else .ok none L1).bind k) t F B X):SK A (λ L=>(lcBody gt ge L).bind k) t F B X:=fO h
theorem aeb {ge:LS->R D}{k:Option D->LS->R ω}(h1:SK A (λ L=>(ge L).bind λ y L2=>k (some y) L2) t F B X):SK A (λ L=>(if true=true then(ge L).bind λ y L2=>R.ok (some y) L2 else .ok none L).bind k) t F B X:=fO h1
theorem ajU {m:LS->R S}{ns:List Int}{tm:T ε Bool}{Fm:Bool->S}{Bm:Bool->LS}{Xm:ε->LS}(hm:SK [some (.scr ns)] m tm Fm Bm Xm)(hF:Fm true=.d (.bool true))(h:tm=.ok true):∃ L,m [some (.scr ns)]=.ok (.d (.bool true)) L:=by
 have h1:=hm _ (Mt.refl _)
 rw[h]at h1;obtain⟨L,h2,_⟩:=h1;exact⟨L,by rw[h2,hF]⟩
end
theorem ln {α:Type}{l:List α}{n:Nat}(h:l.length=n)(hn:n<=1000:=by decide):l.length<=1000:=by rw[h];exact hn
theorem lnS {α:Type}{l:List α}{n:Nat}(h:l.length=n)(hn:n<=1000:=by decide):l.length<=sizeLine:=by
 rw[h,PySem.sizeLine_eq]
 omega
section
variable {ε α β γ ω:Type}{A:LS}{F:β->ω}{B:β->LS}{X:ε->LS}{t:T ε β}
theorem abb {T:String}{d:D}{b:Bool}(h:kitB (dTy d) T=some b):isTy T d=some (Enc.enc b):=by
 unfold isTy;rw[h]
 rfl
theorem vG {K:Kont ω}{g1 g2:LS->R O}(h:SS A g1 K t F B X):SK A (λ L=>fin K (if true=true then g1 L else g2 L)) t F B X:=h
theorem Mt.all:∀ {ss:List S} {L:LS},Mt (ss.map some) L->L=ss.map some
 | [],[],_=>rfl
 | [],_::_,h=>by cases h.1
 | s::ss,[],h=>by cases h.1
 | s::ss,y::L,h=>by
  have h0:=h.2 0 s rfl
  have hy:y=some s:=Option.some.inj h0
  rw[hy,Mt.all (ss:=ss) (L:=L) ⟨Nat.succ.inj h.1,λ i s e=>h.2 (i+1) s e⟩]
  rfl
theorem aec {ss:List S}{m:LS->R S}{b:β}{F:β->S}{L':LS}(h:m (ss.map some)=.ok (F b) L')(hB:Mt (B b) L'):SK (ss.map some) m (T.ok b:T ε β) F B X:=λ L hL=>by
 rw[hL.all];exact⟨L',h,hB⟩
end
end VS
namespace Ty
open PySem VS Lw
def SrcT:Type:={s:S // Src s}
open Classical in
noncomputable def aed (ns:List Int):T Empty SrcT:=if h:ns.length<=63 then .ok ⟨_,adW h⟩ else .no
theorem aoB (ns:List Int):SK [some (.scr ns)] Lw.lw (aed ns) (λ r=>r.1) (λ _=>[some (.scr ns)]) XV:=by
 unfold aed
 split
 ·rename_i h
  exact aec (ss:=[.scr ns]) (F:=λ r:SrcT=>r.1) (amm h) (Mt.refl _)
 exact tX
theorem agV {ns:List Int}(h:ns.length<=63):∃ s,aed ns=.ok s:=by
 unfold aed;rw[dif_pos h];exact⟨_,rfl⟩
def NextQ (s:SrcT)(n:Int)(p:Int×SrcT):Prop:=ao [some s.1,some (.d (.int n))]=.ok (.d (.int p.1)) [some p.2.1,none]/\0<=p.1/\p.1 < n
theorem aam (s:SrcT){n:Int}(h:0 < n/\n < 1073741824):∃ p,NextQ s n p:=by
 obtain⟨r,s',e,h0,h1,h2⟩:=o9 s.2 h.1 h.2;exact⟨(r,⟨s',h2⟩),e,h0,h1⟩
open Classical in
noncomputable def jO (s:SrcT)(n:Int):T Empty (Int×SrcT):=if h:0 < n/\n < 1073741824 then .ok (Classical.choose (aam s h)) else .no
theorem oN (s:SrcT)(n:Int):SK [some s.1,dv n] Lw.ao (jO s n) (λ r=>.d (Enc.enc r.1)) (λ r=>[some r.2.1,none]) XV:=by
 unfold jO
 split
 ·rename_i h
  exact aec (ss:=[s.1,.d (.int n)]) (F:=λ r:Int×SrcT=>.d (.int r.1)) (Classical.choose_spec (aam s h)).1 (Mt.refl _)
 exact tX
theorem gK (s:SrcT){n:Int}(h:0 < n/\n < 1073741824):∃ r s',jO s n=.ok (r,s')/\0<=r/\r < n:=by
 have:=Classical.choose_spec (aam s h)
 exact⟨_,_,by unfold jO;rw[dif_pos h],this.2.1,this.2.2⟩
def SmallT (x:Tx):Prop:=∀ c∈x.cs,97<=c.val/\c.val<=122
def GoodT (x:Tx):Prop:=SmallT x/\1<=x.cs.length/\x.cs.length<=12
theorem abd {l:List Nat}(h:Small l):∀ c∈l,c < 1114112:=λ c hc=>by have:=h c hc;omega
theorem agW {l:List Nat}(h:Small l):(Tx.of l).s=sOf l:=Tx.of_s (abd h)
theorem aan {l:List Nat}(h:Small l):(Tx.of l).cs.map (·.val)=l:=by
 unfold Tx.of;rw[List.map_map];refine(List.map_congr_left (g:=id) λ c hc=>?_).trans (List.map_id _);show(if h:c < 1114112 then(⟨c,h⟩:Fin 1114112) else _).val=c;rw[dif_pos (abd h c hc)]
theorem ahV (l:List Nat):(Tx.of l).cs.length=l.length:=by simp[Tx.of]
theorem agX {l:List Nat}(h:Small l):SmallT (Tx.of l):=λ c hc=>by
 have:c.val∈(Tx.of l).cs.map (·.val):=List.mem_map_of_mem hc
 rw[aan h]at this;exact h _ this
theorem ajV {l:List Nat}(h:Good l):GoodT (Tx.of l):=⟨agX h.1,by rw[ahV];exact h.2.1,by rw[ahV];exact h.2.2⟩
theorem amw {a b:List Nat}(ha:Small a)(hb:Small b)(h:Tx.of a=Tx.of b):a=b:=by rw[←aan ha,←aan hb,h]
theorem ou {x:Tx}(h:GoodT x):Good (x.cs.map (·.val)):=⟨λ c hc=>by
 obtain⟨d,hd,rfl⟩:=List.mem_map.mp hc
 exact h.1 d hd,by rw[List.length_map];exact h.2.1,by rw[List.length_map];exact h.2.2⟩
def NamesQ (s:SrcT)(m:Int)(p:List Tx×SrcT):Prop:=ie [some s.1,some (.d (.int m))]=.ok (.ol (p.1.map Enc.enc)) [some p.2.1,none]/\p.1.length=m.toNat/\p.1.Nodup/\∀ n∈p.1,GoodT n
theorem agY {ns:List (List Nat)}(h:ns.Nodup)(g:∀ n∈ns,Good n):(ns.map Tx.of).Nodup:=by
 rw[List.Nodup,List.pairwise_map];refine List.Pairwise.imp_of_mem (λ ha hb hab z=>hab (amw (g _ ha).1 (g _ hb).1 z)) h
theorem wH (s:SrcT){m:Int}(h:0<=m/\m<=500):∃ p,NamesQ s m p:=by
 obtain⟨ns,s',e,h1,h2,h3,h4⟩:=agM s.2 h.1 h.2;refine⟨(ns.map Tx.of,⟨s',h4⟩),?_,by rw[List.length_map];exact h1,agY h2 h3,λ n hn=>?_⟩
 ·rw[e,List.map_map]
  congr 2
  exact List.map_congr_left λ n hn=>by
   show PyData.str (sOf n)=PyData.str (Tx.of n).s;rw[agW (h3 n hn).1]
 ·obtain⟨w,hw,rfl⟩:=List.mem_map.mp hn;exact ajV (h3 w hw)
open Classical in
noncomputable def ug (s:SrcT)(m:Int):T Empty (List Tx×SrcT):=if h:0<=m/\m<=500 then .ok (Classical.choose (wH s h)) else .no
theorem ajW (s:SrcT)(m:Int):SK [some s.1,dv m] Lw.ie (ug s m) (λ r=>.ol (r.1.map Enc.enc)) (λ r=>[some r.2.1,none]) XV:=by
 unfold ug
 split
 ·rename_i h
  exact aec (ss:=[s.1,.d (.int m)]) (F:=λ r:List Tx×SrcT=>.ol (r.1.map Enc.enc)) (Classical.choose_spec (wH s h)).1 (Mt.refl _)
 exact tX
theorem abX (s:SrcT){m:Int}(h:0<=m/\m<=500):∃ ns s',ug s m=.ok (ns,s')/\ns.length=m.toNat/\ns.Nodup/\∀ n∈ns,GoodT n:=by
 have:=Classical.choose_spec (wH s h)
 exact⟨_,_,by unfold ug;rw[dif_pos h],this.2.1,this.2.2.1,this.2.2.2⟩
abbrev Oath:=Tx×Int
abbrev Suit:=Tp4 (List Oath) (List Oath) Int (Option (Int×Tx))
abbrev Marks:=Dt (Int×Tx) Bool
end Ty
namespace VS
open PySem L2
section
variable {ε ε' α β γ ν ρ:Type}
def T.Post (t:T ε α)(P:α->Prop):Prop:=∃ a,t=.ok a/\P a
theorem bD {a:α}{P:α->Prop}(h:P a):(T.ok a:T ε α).Post P:=⟨a,rfl,h⟩
theorem jP {t:T ε α}{k:α->T ε β}{P:α->Prop}{Q:β->Prop}(h:t.Post P)(h2:∀ a,P a->(k a).Post Q):(t.bind k).Post Q:=by
 obtain⟨a,rfl,ha⟩:=h;exact h2 a ha
theorem qu {t:T ε α}{P Q:α->Prop}(h:t.Post P)(k:∀ a,P a->Q a):t.Post Q:=by
 obtain⟨a,e,ha⟩:=h;exact⟨a,e,k a ha⟩
theorem qP {p:Prop}[Decidable p]{t:T ε α}{P:α->Prop}(hp:p)(h:t.Post P):(T.gd p t).Post P:=by
 rw[T.gd_of hp];exact h
theorem j7 {o:Option α}{k:α->T ε β}{Q:β->Prop}{a:α}(e:o=some a)(h:(k a).Post Q):((T.ofO o).bind k).Post Q:=by
 subst e
 exact h
theorem abY {t:T ε (T.Le ν ρ)}{n:ν->T ε β}{r:ρ->T ε β}{P:ν->Prop}{Q:β->Prop}(h:t.Post λ z=>∃ v,z=.nx v/\P v)(h2:∀ v,P v->(n v).Post Q):(T.bindL t n r).Post Q:=by
 obtain⟨z,rfl,v,rfl,hv⟩:=h;exact h2 v hv
theorem aa {a:α}{k:α->T ε β}:(T.ofO (some a)).bind k=k a:=rfl
theorem forM_nil {v:ν}{f:α->ν->T ε ν}:T.forM [] v f=.ok v:=rfl
theorem jt {x:α}{xs:List α}{v:ν}{f:α->ν->T ε ν}:T.forM (x::xs) v f=(f x v).bind λ v'=>T.forM xs v' f:=rfl
theorem yI {f:α->ν->T ε ν}(Inv:List α->ν->Prop){xs:List α}{v:ν}(h0:Inv [] v)(hs:∀ pre x post v,xs=pre++x::post->Inv pre v->(f x v).Post (Inv (pre++[x]))):(T.forM xs v f).Post (Inv xs):=by
 have key:∀ (post pre:List α) (v:ν),xs=pre++post->Inv pre v->(T.forM post v f).Post (Inv xs):=by
  intro post
  induction post with
  | nil =>
   intro pre v e h;rw[List.append_nil]at e
   subst e
   exact bD h
  | cons x post ih =>
   intro pre v e h;exact jP (hs pre x post v e h) λ v' h'=>ih (pre++[x]) v' (by rw[e];simp) h'
 exact key xs [] v rfl h0
theorem aao (n:Nat):rangeT (n+1)=rangeT n++[(n:Int)]:=by
 unfold rangeT;rw[List.range_succ,List.map_append]
 rfl
theorem vH (n:Nat):(rangeT n).length=n:=by unfold rangeT;simp
theorem agZ {f:Int->ν->T ε ν}(Inv:Nat->ν->Prop){n:Nat}{v:ν}(h0:Inv n v)(hs:∀ (i:Nat) v,i < n->Inv (i+1) v->(f (i:Int) v).Post (Inv i)):(T.forM (rangeT n).reverse v f).Post (Inv 0):=by
 induction n generalizing v with
 | zero=>exact bD h0
 | succ n ih =>
  rw[aao,List.reverse_append];exact jP (hs n v (Nat.lt_succ_self n) h0) λ v' h'=>ih h' λ i v hi=>hs i v (Nat.lt_succ_of_lt hi)
theorem yJ {f:α->ν->T ε ν}{g:α->ν->ν}:∀ {xs:List α} {v:ν},(∀ x∈xs,∀ v,f x v=.ok (g x v))->T.forM xs v f=.ok (xs.foldl (λ v x=>g x v) v)
 | [],v,_=>rfl
 | x::xs,v,h=>by
  rw[jt,h x List.mem_cons_self v];exact yJ λ y hy v=>h y (List.mem_cons_of_mem _ hy) v
theorem sz (n:Nat)(h:n<=1000000):n<=sizeLine:=by rw[PySem.sizeLine_eq];omega
theorem szl (n:Nat)(h:n<=1000000):n < sizeLine:=by rw[PySem.sizeLine_eq];omega
theorem abe {xs:List α}{p:α->Bool}{h:α->β}(hs:xs.length<=1000000):(T.lcp xs p h:T ε (List β))=.ok ((xs.filter p).map h):=if_pos (sz _ hs)
theorem aee {f:α->ν->T ε' (Option β×ν)}{g:α->Option β}{v:ν}:∀ {xs:List α} {acc:List β},acc.length+xs.length<=1000000->(∀ x∈xs,f x v=.ok (g x,v))->(T.lcM' xs acc v f:T ε _)=.ok (acc++xs.filterMap g,v)
 | [],acc,_,_=>by simp[T.lcM']
 | x::xs,acc,hs,h=>by
  rw[List.length_cons]at hs;unfold T.lcM';rw[h x List.mem_cons_self]
  cases hg:g x with
  | none =>
   show T.lcM' xs acc v f=_;rw[aee (by omega) λ y hy=>h y (List.mem_cons_of_mem _ hy),List.filterMap_cons_none hg]
  | some y =>
   show T.gd _ (T.lcM' xs (acc++[y]) v f)=_;rw[T.gd_of (szl _ (by omega)),aee (by rw[List.length_append];simp;omega) λ y hy=>h y (List.mem_cons_of_mem _ hy),List.filterMap_cons_some hg,List.append_assoc]
   rfl
theorem aef {f:α->T ε' (Option β)}{g:α->Option β}{xs:List α}(hs:xs.length<=1000000)(h:∀ x∈xs,f x=.ok (g x)):(T.lcs xs f:T ε (List β))=.ok (xs.filterMap g):=by
 unfold T.lcs T.lc;rw[aee (g:=g) (by simpa using hs) λ x hx=>by rw[h x hx];rfl]
 simp[T.bind]
theorem jY (xs:List α)(j:Nat):atI xs (j:Int)=xs[j]?:=by
 unfold atI ixN;rw[if_pos (by omega)]
 by_cases h:j < xs.length
 ·rw[if_pos (by omega)]
  rfl
 ·rw[if_neg (by omega),List.getElem?_eq_none (by omega)]
  rfl
theorem rG {xs:List α}{i:Int}(h0:0<=i)(h1:i < xs.length):atI xs i=some (xs[i.toNat]'(by omega)):=by
 obtain⟨j,rfl⟩:=Int.eq_ofNat_of_zero_le h0;rw[jY];exact List.getElem?_eq_getElem _
theorem ag0 {xs:List α}{j:Nat}{x:α}(h:j < xs.length):setT xs (j:Int) x=some (xs.set j x):=by
 unfold setT ixN;rw[if_pos (by omega),if_pos (by omega)]
 rfl
theorem cR {xs ys:List α}(h:xs.length+ys.length<=1000000):catT xs ys=some (xs++ys):=if_pos (sz _ h)
theorem ag1 (x:α)(n:Nat)(h:n<=1000000):repT [x] (n:Int)=some (List.replicate n x):=by
 unfold repT
 rw[if_pos (by
  unfold repOk;refine decide_eq_true ⟨by omega,by omega,?_⟩;rw[PySem.sizeLine_eq]
  simp
  omega)]
 congr 1
 rw[Int.toNat_natCast]
 induction n with
 | zero=>rfl
 | succ n ih =>
  rw[List.replicate_succ,List.flatten_cons,ih (by omega),List.replicate_succ]
  rfl
theorem ajX {j:Int}(h0:0<=j)(h1:j<=1000000):inR j:=amr (by omega) (by omega)
theorem ahQ {xs:List α}{k:Int}(h0:0<=k):cutT xs none (some k)=xs.take k.toNat:=by
 unfold cutT;obtain⟨j,rfl⟩:=Int.eq_ofNat_of_zero_le h0
 have e1:HT.sIx xs.length 0 none=0:=rfl
 have e2:HT.sIx xs.length xs.length (some (j:Int))=min j xs.length:=by
  unfold HT.sIx
  simp only[]
  rw[if_neg (by omega),Int.toNat_natCast]
 rw[e1,e2]
 simp
theorem pZ {xs:List α}{k:Int}(h0:0<=k):cutT xs (some k) none=xs.drop k.toNat:=by
 unfold cutT;obtain⟨j,rfl⟩:=Int.eq_ofNat_of_zero_le h0
 have e1:HT.sIx xs.length 0 (some (j:Int))=min j xs.length:=by
  unfold HT.sIx
  simp only[]
  rw[if_neg (by omega),Int.toNat_natCast]
 have e2:HT.sIx xs.length xs.length none=xs.length:=rfl
 rw[e1,e2]
 by_cases h:j<=xs.length
 ·rw[Nat.min_eq_left h,Int.toNat_natCast,List.take_of_length_le (by rw[List.length_drop];omega)]
 ·rw[Nat.min_eq_right (by omega),Int.toNat_natCast,List.drop_eq_nil_of_le (Nat.le_refl _),List.drop_eq_nil_of_le (by omega),List.take_nil]
section
variable {κ:Type}[DecidableEq κ]
theorem abf (k:κ):dget ([]:Dt κ α) k=none:=rfl
theorem mF (d:Dt κ α)(k:κ):(dget d k).isSome=d.any λ p=>decide (p.1=k):=by
 unfold dget
 induction d with
 | nil=>rfl
 | cons p d ih =>
  rw[List.any_cons]
  by_cases h:p.1=k
  ·rw[List.find?_cons_of_pos (by simp[h])]
   simp[h]
  ·rw[List.find?_cons_of_neg (by simp[h])]
   simp[h,ih]
theorem wI (d:Dt κ α)(k k':κ)(v:α):dget (dput d k v) k'=if k=k' then some v else dget d k':=by
 unfold dput
 by_cases ha:(d.any λ p=>decide (p.1=k))=true
 ·rw[if_pos ha];unfold dget
  induction d with
  | nil=>simp at ha
  | cons p d ih =>
   rw[List.map_cons]
   by_cases h:p.1=k
   ·rw[if_pos h]
    by_cases hk:k=k'
    ·rw[List.find?_cons_of_pos (by simp[h,hk]),if_pos hk]
     rfl
    ·rw[List.find?_cons_of_neg (by simp[h,hk]),if_neg hk,List.find?_cons_of_neg (by simp[h,hk])]
     have:=hk
     by_cases hd:(d.any λ p=>decide (p.1=k))=true
     ·have i:=ih hd
      rw[if_neg hk]at i;exact i
     ·have e:d.map (λ p=>if p.1=k then(p.1,v) else p)=d:=by
       refine(List.map_congr_left (g:=id) λ q hq=>?_).trans (List.map_id _);rw[if_neg]
       ·rfl
       ·intro z;exact hd (List.any_eq_true.mpr ⟨q,hq,by simp[z]⟩)
      rw[e]
   ·rw[if_neg h]
    have hd:(d.any λ p=>decide (p.1=k))=true:=by
     rw[List.any_cons]at ha
     simpa [h] using ha
    by_cases h':p.1=k'
    ·rw[List.find?_cons_of_pos (by simp[h']),List.find?_cons_of_pos (by simp[h']),if_neg λ z=>h (h'.trans z.symm)]
    ·rw[List.find?_cons_of_neg (by simp[h']),List.find?_cons_of_neg (by simp[h'])];exact ih hd
 ·rw[if_neg ha];unfold dget;rw[List.find?_append]
  by_cases hk:k=k'
  ·rw[if_pos hk]
   have:d.find? (λ p=>decide (p.1=k'))=none:=by
    rw[List.find?_eq_none];intro q hq z;exact ha (List.any_eq_true.mpr ⟨q,hq,by simpa [hk] using z⟩)
   rw[this]
   simp[hk]
  ·rw[if_neg hk]
   cases e:d.find? (λ p=>decide (p.1=k')) with
   | some q=>rfl
   | none=>simp[hk]
theorem abg (d:Dt κ α)(k:κ)(v:α):(dput d k v).length<=d.length+1:=by
 unfold dput
 split
 ·rw[List.length_map];omega
 ·rw[List.length_append];simp
end
end
end VS
noncomputable section
namespace Ty
open PySem VS Lw L2
def wJ (side:(List Oath)):T Empty (Int) :=
 (T.lcp side (λ(i1:Oath)=>true) (λ i1=>i1.2)).bind λ l2 =>
 .ok (List.sum l2:Int)
def jE (side:(List Oath))(case_:Int)(marks:Marks):T Empty (Int) :=
 (T.lcp side (λ(i1:Oath)=>(!(dget marks (case_,i1.1)).isSome)) (λ i1=>((i1.1,i1.2):Oath))).bind λ l2 =>
 (wJ l2).bind λ r3 =>
 .ok r3
def pA (suit:Suit)(case_:Int)(marks:Marks):T Empty (Int) :=
 (jE suit.a case_ marks).bind λ r1 =>
 (jE suit.b case_ marks).bind λ r2 =>
 .ok ((r1 - r2) - suit.c)
def mG (apA:(List Suit))(marks:Marks):T Empty ((List Bool)×Marks) :=
 (T.ofO (repT (([false]:List Bool):(List Bool)) ((List.length apA:Nat):Int))).bind λ x1 =>
 T.gd (inR ((List.length apA:Nat):Int)) <|
 (T.forM ((rangeT (Int.toNat ((List.length apA:Nat):Int))).reverse) ((marks,x1):Marks×(List Bool)) (λ(i2:Int) (marks5,told6)=>(((T.ofO (atI apA i2)).bind λ x7 =>
 (pA x7 i2 marks5).bind λ r8 =>
 (T.ofO (setT told6 i2 (decide ((0:Int)<=r8)))).bind λ told9 =>
 (T.ofO (atI told9 i2)).bind λ x10 =>
 if x10=true then(if(Option.isSome x7.d)=true then((T.ofO x7.d).bind λ u11 =>
 T.gd (marks5.length < sizeLine) <|
 .ok ((dput marks5 u11 true),told9)) else(.ok (marks5,told9))) else(.ok (marks5,told9))):T Empty (Marks×(List Bool))))).bind λ(marks5,told6) =>
 .ok (told6,marks5)
def yK (apA:(List Suit)):T Empty ((List Bool)) :=
 (mG apA ([]:Marks)).bind λ(r1,_g1) =>
 .ok r1
end Ty
namespace Ty
open PySem VS L2
structure SideOk (zs:List Oath):Prop where
 nd:(zs.map (·.1)).Nodup
 wt:∀ z∈zs,1<=z.2/\z.2<=1000/\GoodT z.1
def namesOf (u:Suit):List Tx:=(u.a++u.b).map (·.1)
structure SOk (us:List Suit):Prop where
 len:us.length<=60
 side:∀ u∈us,SideOk (u.a++u.b)/\(u.a++u.b).length<=24/\1<=u.c/\u.c<=12000
 named:∀ (i:Nat) (u:Suit) (k:Int×Tx),us[i]?=some u->u.d=some k->∃ (j:Nat) (w:Suit),k.1=(j:Int)/\j < i/\us[j]?=some w/\k.2∈namesOf w
def sumW (zs:List Oath):Int:=(zs.map (·.2)).sum
def ajY (us:List Suit)(o:Option (Int×Tx)):Prop:=∀ k,o=some k->∃ (j:Nat) (w:Suit),k.1=(j:Int)/\us[j]?=some w/\k.2∈namesOf w
def brkB (us:List Suit)(apu:List Bool)(k:Int×Tx):Bool:=(us.zip apu).any λ p=>p.2&&decide (p.1.d=some k)
def keptW (zs:List Oath)(c:Int)(b:Int×Tx->Bool):Int:=sumW (zs.filter λ o=>!b (c,o.1))
def margB (u:Suit)(c:Int)(b:Int×Tx->Bool):Int:=keptW u.a c b - keptW u.b c b - u.c
theorem qQ {us:List Suit}{apu:List Bool}{k:Int×Tx}:brkB us apu k=true↔∃ (j:Nat) (u:Suit),us[j]?=some u/\apu[j]?=some true/\u.d=some k:=by
 unfold brkB;rw[List.any_eq_true]
 constructor
 ·rintro⟨p,hp,h⟩;obtain⟨j,hj,e⟩:=List.getElem_of_mem hp
  have e':=List.getElem?_eq_some_iff.mpr ⟨hj,e⟩
  obtain⟨h1,h2⟩:=List.getElem?_zip_eq_some.mp e'
  simp only[Bool.and_eq_true,decide_eq_true_eq]at h
  exact⟨j,p.1,h1,by rw[h2,h.1],h.2⟩
 ·rintro⟨j,u,h1,h2,h3⟩;refine⟨(u,true),?_,by simp[h3]⟩;exact List.mem_of_getElem? (List.getElem?_zip_eq_some.mpr ⟨h1,h2⟩)
theorem uh {zs:List Oath}{c:Int}{b b':Int×Tx->Bool}(h:∀ o∈zs,b (c,o.1)=b' (c,o.1)):keptW zs c b=keptW zs c b':=by
 unfold keptW;rw[List.filter_congr λ o ho=>by rw[h o ho]]
theorem jQ {u:Suit}{c:Int}{b b':Int×Tx->Bool}(h:∀ n,b (c,n)=b' (c,n)):margB u c b=margB u c b':=by
 unfold margB;rw[uh λ o _=>h o.1,uh λ o _=>h o.1]
structure Settles (us:List Suit)(b0:Int×Tx->Bool)(apu:List Bool):Prop where
 len:apu.length=us.length
 at_:∀ (c:Nat) (u:Suit),us[c]?=some u->apu[c]?=some (decide (0<=margB u c λ k=>b0 k||brkB us apu k))
theorem wL (zs:List Oath)(h:zs.length<=1000000):wJ zs=.ok (sumW zs):=by
 unfold wJ;rw[abe h,T.ok_bind,List.filter_eq_self.mpr λ _ _=>rfl]
 rfl
theorem oO (zs:List Oath)(c:Int)(ms:Marks)(h:zs.length<=1000000):jE zs c ms=.ok (keptW zs c λ k=>(dget ms k).isSome):=by
 unfold jE;rw[abe h,T.ok_bind,wL _ (by rw[List.length_map];exact Nat.le_trans (List.length_filter_le ..) h),T.ok_bind]
 congr 1
 unfold keptW
 congr 1
 exact List.map_id _
theorem yL (u:Suit)(c:Int)(ms:Marks)(h1:u.a.length<=1000000)(h2:u.b.length<=1000000):pA u c ms=.ok (margB u c λ k=>(dget ms k).isSome):=by
 unfold pA;rw[oO _ _ _ h1,T.ok_bind,oO _ _ _ h2,T.ok_bind]
 rfl
theorem SOk.sz {us:List Suit}(h:SOk us){u:Suit}(hu:u∈us):u.a.length<=24/\u.b.length<=24:=by
 have:=(h.side u hu).2.1
 rw[List.length_append]at this
 omega
theorem wM {us:List Suit}{apu:List Bool}{c:Nat}{u:Suit}{b:Bool}(hu:us[c]?=some u)(hc:apu[c]?=some false)(k:Int×Tx):brkB us (apu.set c b) k=(brkB us apu k||(b&&decide (u.d=some k))):=by
 have hlt:=(List.getElem?_eq_some_iff.mp hc).1
 rw[Bool.eq_iff_iff,Bool.or_eq_true,Bool.and_eq_true,decide_eq_true_eq,qQ,qQ]
 constructor
 ·rintro⟨j,w,h1,h2,h3⟩
  by_cases hj:c=j
  ·subst hj
   rw[hu]at h1
   cases h1
   rw[List.getElem?_set_self hlt]at h2;exact .inr ⟨Option.some.inj h2,h3⟩
  ·rw[List.getElem?_set_ne hj]at h2;exact .inl ⟨j,w,h1,h2,h3⟩
 ·rintro(⟨j,w,h1,h2,h3⟩ | ⟨rfl,h3⟩)
  ·have hj:c≠j:=λ z=>by subst z;rw[hc]at h2;cases h2
   exact⟨j,w,h1,by rw[List.getElem?_set_ne hj];exact h2,h3⟩
  ·exact⟨c,u,hu,List.getElem?_set_self hlt,h3⟩
theorem pB {us:List Suit}(hs:SOk us)(ms:Marks)(hm:ms.length<=1000):(mG us ms).Post λ p=>Settles us (λ k=>(dget ms k).isSome) p.1/\(∀ k,(dget p.2 k).isSome=((dget ms k).isSome||brkB us p.1 k))/\p.2.length<=ms.length+60:=by
 unfold mG
 have hl:=hs.len
 refine j7 (ag1 false us.length (by omega)) (qP (ajX (by omega) (by omega)) ?_);rw[Int.toNat_natCast]
 refine jP (agZ (λ i (v:Marks×List Bool)=>v.2.length=us.length/\(∀ j,j < i->j < us.length->v.2[j]?=some false)/\(∀ k,(dget v.1 k).isSome=((dget ms k).isSome||brkB us v.2 k))/\v.1.length+i<=ms.length+us.length /\
  ∀ (c:Nat) (u:Suit),i<=c->us[c]?=some u->v.2[c]?=some (decide (0<=margB u c λ k=>(dget ms k).isSome||brkB us v.2 k))) ?_ ?_) ?_
 ·refine⟨by simp,λ j _ hj=>by simp[hj],λ k=>?_,Nat.le_refl _,λ c u hc hu=>?_⟩
  ·have:brkB us (List.replicate us.length false) k=false:=by
    rw[Bool.eq_false_iff];intro z;obtain⟨j,u,_,h2,_⟩:=qQ.mp z;rw[List.getElem?_replicate]at h2
    split at h2<;>cases h2
   rw[this,Bool.or_false]
  ·have:=(List.getElem?_eq_some_iff.mp hu).1
   omega
 ·rintro c ⟨m,apu⟩ hc ⟨a1,a2,a3,a4,a5⟩
  dsimp only at a1 a2 a3 a4 a5 ⊢
  have hu:us[c]?=some us[c]:=List.getElem?_eq_getElem hc
  generalize us[c]=u at hu
  have hmem:u∈us:=List.mem_of_getElem? hu
  have hz:=hs.sz hmem
  have hfc:apu[c]?=some false:=a2 c (by omega) hc
  have hct:c < apu.length:=by omega
  refine j7 (by rw[jY];exact hu) ?_;rw[yL _ _ _ (by omega) (by omega),T.ok_bind]
  have em:(margB u c λ k=>(dget m k).isSome)=margB u c λ k=>(dget ms k).isSome||brkB us apu k:=jQ λ n=>a3 _
  rw[em]
  generalize hb:decide (0<=margB u c λ k=>(dget ms k).isSome||brkB us apu k)=b
  refine j7 (ag0 hct) ?_
  have hget:atI (apu.set c b) (c:Int)=some b:=by rw[jY,List.getElem?_set_self hct]
  -- what the names of a case name lies ahead of it
  have ahead:∀ k,u.d=some k->k.1 < (c:Int):=λ k hk=>by
   obtain⟨j,w,h1,h2,_⟩:=hs.named c u k hu hk
   omega
  have later:∀ (j:Nat) (n:Tx),c<=j->brkB us (apu.set c b) ((j:Int),n)=brkB us apu ((j:Int),n):=λ j n hj=>by
   rw[wM hu hfc]
   have:decide (u.d=some ((j:Int),n))=false:=decide_eq_false λ z=>by
    have:=ahead _ z
    dsimp only at this
    omega
   rw[this,Bool.and_false,Bool.or_false]
  have keep:∀ (m':Marks),(∀ k,(dget m' k).isSome=((dget ms k).isSome||brkB us (apu.set c b) k))->m'.length<=m.length+1->(T.ok (m',apu.set c b):T Empty _).Post λ v:Marks×List Bool=>v.2.length=us.length/\(∀ j,j < c->j < us.length->v.2[j]?=some false)/\(∀ k,(dget v.1 k).isSome=((dget ms k).isSome||brkB us v.2 k))/\v.1.length+c<=ms.length+us.length /\
    ∀ (d:Nat) (u:Suit),c<=d->us[d]?=some u->v.2[d]?=some (decide (0<=margB u d λ k=>(dget ms k).isSome||brkB us v.2 k)):=λ m' h1 h2=>by
   refine bD ⟨by dsimp only;rw[List.length_set];exact a1,λ j hj hj2=>?_,h1,by dsimp only;omega,λ d w hd hw=>?_⟩
   ·dsimp only
    rw[List.getElem?_set_ne (by omega)];exact a2 j (by omega) hj2
   ·dsimp only
    have e2:(margB w d λ k=>(dget ms k).isSome||brkB us (apu.set c b) k)=margB w d λ k=>(dget ms k).isSome||brkB us apu k:=jQ λ n=>by rw[later d n hd]
    rw[e2]
    by_cases hcd:c=d
    ·subst hcd
     rw[hu]at hw
     cases hw
     rw[List.getElem?_set_self hct,hb]
    ·rw[List.getElem?_set_ne hcd];exact a5 d w (by omega) hw
  rw[hget]
  cases b with
  | false =>
   simp only[aa,Bool.false_eq_true,if_false]
   refine keep m (λ k=>?_) (by omega);rw[a3,wM hu hfc]
   simp
  | true =>
   simp only[aa,if_true]
   cases hd:u.d with
   | none =>
    simp only[Option.isSome_none,Bool.false_eq_true,if_false]
    refine keep m (λ k=>?_) (by omega);rw[a3,wM hu hfc,hd]
    simp
   | some k0 =>
    simp only[Option.isSome_some,if_true,aa]
    refine qP (szl _ (by omega)) (keep _ (λ k=>?_) (abg ..));rw[wI,wM hu hfc,hd]
    by_cases hk:k0=k
    ·rw[if_pos hk]
     simp[hk]
    ·rw[if_neg hk,a3]
     have:decide (some k0=some k)=false:=decide_eq_false λ z=>hk (Option.some.inj z)
     rw[this]
     simp
 ·rintro⟨m,apu⟩ ⟨a1,a2,a3,a4,a5⟩
  dsimp only at a1 a2 a3 a4 a5 ⊢
  exact bD ⟨⟨a1,λ c u hu=>a5 c u (Nat.zero_le _) hu⟩,a3,by dsimp only;omega⟩
abbrev no0:Int×Tx->Bool:=λ _=>false
theorem yM {us:List Suit}(hs:SOk us):(yK us).Post λ apu=>Settles us no0 apu:=by
 unfold yK;refine jP (pB hs [] (by simp)) ?_;rintro⟨apu,m⟩ ⟨h,_,_⟩;exact bD h
end Ty
noncomputable section
namespace Ty
open PySem VS L2
theorem ul {us:List Suit}(hs:SOk us){b0:Int×Tx->Bool}{t1 t2:List Bool}(h1:Settles us b0 t1)(h2:Settles us b0 t2):t1=t2:=by
 have key:∀ (k c:Nat),us.length<=c+k->c<=us.length->∀ j,c<=j->t1[j]?=t2[j]?:=by
  intro k
  induction k with
  | zero =>
   intro c hc _ j hj;rw[List.getElem?_eq_none (by rw[h1.len];omega),List.getElem?_eq_none (by rw[h2.len];omega)]
  | succ k ih =>
   intro c hc hc2 j hj
   by_cases hcn:c=us.length
   ·exact ih c (by omega) hc2 j hj
   have hlt:c < us.length:=by omega
   have ih':=ih (c+1) (by omega) (by omega)
   by_cases hjc:j=c
   ·subst hjc
    have hu:us[j]?=some us[j]:=List.getElem?_eq_getElem hlt
    rw[h1.at_ j _ hu,h2.at_ j _ hu]
    have e:∀ n:Tx,brkB us t1 ((j:Int),n)=brkB us t2 ((j:Int),n):=λ n=>by
     rw[Bool.eq_iff_iff,qQ,qQ]
     constructor
     ·rintro⟨i,w,e1,e2,e3⟩;obtain⟨q,_,a1,a2,_⟩:=hs.named i w _ e1 e3
      dsimp only at a1
      exact⟨i,w,e1,by rw[←ih' i (by omega)];exact e2,e3⟩
     ·rintro⟨i,w,e1,e2,e3⟩;obtain⟨q,_,a1,a2,_⟩:=hs.named i w _ e1 e3
      dsimp only at a1
      exact⟨i,w,e1,by rw[ih' i (by omega)];exact e2,e3⟩
    rw[jQ (b':=λ k=>b0 k||brkB us t2 k) λ n=>by rw[e n]]
   ·exact ih' j (by omega)
 exact List.ext_getElem? λ j=>key us.length 0 (by omega) (Nat.zero_le _) j (Nat.zero_le _)
structure Rows (n:Nat)(rows:List (List Bool)):Prop where
 len:rows.length=2 ^ n
 nd:rows.Nodup
 mem:∀ r,r∈rows↔r.length=n
end Ty
namespace VS
open PySem L2
def enT {α:Type}:Nat->List α->List (Int×α)
 | _,[]=>[]
 | i,x::xs=>((i:Nat),x)::enT (i+1) xs
section
variable {α β γ ε ν ω:Type}{A:LS}{t:T ε β}{F:β->ω}{B:β->LS}{X:ε->LS}
theorem km {K:Kont ω}:SS A gNever K (T.no:T ε β) F B X:=λ L hL=>trivial
theorem wN:∀ (xs:List α) (i:Nat),(enT i xs).length=xs.length
 | [],_=>rfl
 | x::xs,i=>by
  show(enT (i+1) xs).length+1=xs.length+1;rw[wN xs (i+1)]
theorem mH:∀ (xs:List α) (i j:Nat),(enT i xs)[j]?=(xs[j]?).map λ x=>(((i+j:Nat):Int),x)
 | [],i,j=>rfl
 | x::xs,i,0=>rfl
 | x::xs,i,j+1=>by
  show(enT (i+1) xs)[j]?=(xs[j]?).map _;rw[mH xs (i+1) j]
  have:i+1+j=i+(j+1):=by omega
  rw[this]
theorem amx {xs:List α}{pre post:List (Int×α)}{x:Int×α}(e:enT 0 xs=pre++x::post):x.1=(pre.length:Int)/\xs[pre.length]?=some x.2/\xs.length=pre.length+post.length+1:=by
 have h:=mH xs 0 pre.length
 rw[e,List.getElem?_append_right (Nat.le_refl _),Nat.sub_self]at h
 have l:=congrArg List.length e
 rw[wN,List.length_append,List.length_cons]at l
 cases hx:xs[pre.length]? with
 | none=>rw[hx]at h;cases h
 | some y =>
  rw[hx]at h
  have h:x=(((0+pre.length:Nat):Int),y):=Option.some.inj h
  rw[h,Nat.zero_add];exact⟨rfl,rfl,by omega⟩
theorem aeg {ρ:Type}{f:α->ν->T ε (T.Lp ν ρ)}(Inv:List α->ν->Prop){xs:List α}{v:ν}(h0:Inv [] v)(hs:∀ pre x post v,xs=pre++x::post->Inv pre v->(f x v).Post λ z=>∃ v',z=.nx v'/\Inv (pre++[x]) v'):(T.forL xs v f).Post λ z=>∃ v',z=.nx v'/\Inv xs v':=by
 have key:∀ (post pre:List α) (v:ν),xs=pre++post->Inv pre v->(T.forL post v f).Post λ z=>∃ v',z=.nx v'/\Inv xs v':=by
  intro post
  induction post with
  | nil =>
   intro pre v e h;rw[List.append_nil]at e
   subst e
   exact bD ⟨v,rfl,h⟩
  | cons x post ih =>
   intro pre v e h;show((f x v).bind _).Post _;obtain⟨z,e1,v',rfl,h'⟩:=hs pre x post v e h;rw[e1];exact ih (pre++[x]) v' (by rw[e];simp) h'
 exact key xs [] v rfl h0
end
end VS
noncomputable section
namespace Ty
open PySem VS L2
def chF (us:List Suit):Nat->Nat->List Int
 | 0,_=>[]
 | n+1,c=>match us[c]? with
  | some u=>(match u.d with
   | some k=>k.1::chF us n k.1.toNat
   | none=>[])
  | none=>[]
def ch (us:List Suit)(c:Nat):List Int:=chF us (c+1) c
end Ty
namespace Ty
open PySem VS Lw
open Classical in
noncomputable def jR (d e:D):T Empty Bool:=if Pl 12 d/\Pl 12 e then .ok (eqb d e) else .no
theorem uo (d e:D):SK [dv d,dv e] (Lw.cH 12) (jR d e) (λ r=>.d (Enc.enc r)) (λ _=>[none,none]) XV:=by
 unfold jR
 split
 ·rename_i h
  exact aec (ss:=[.d d,.d e]) (F:=λ r:Bool=>.d (.bool r)) (wD 12 d e h.1 h.2) (Mt.refl _)
 exact tX
theorem ajZ:∀ (k:Nat) (d:D),Pl k d->Pl (k+1) d
 | 0,_,h=>h.elim
 | k+1,d,h=>by
  cases d with
  | none=>trivial
  | bool b=>trivial
  | int b=>trivial
  | str b=>trivial
  | list xs=>exact λ x hx=>ajZ k x (h x hx)
  | tuple xs=>exact λ x hx=>ajZ k x (h x hx)
  | dict b=>exact h.elim
theorem oG {k m:Nat}(hk:k<=m){d:D}(h:Pl k d):Pl m d:=by
 induction m with
 | zero =>
  have:k=0:=by omega
  subst this
  exact h
 | succ m ih =>
  by_cases e:k=m+1
  ·subst e;exact h
  ·exact ajZ m d (ih (by omega))
class Pln (α:Type)[Enc α] where
 dp:Nat
 pl:∀ x:α,Pl (dp+1) (Enc.enc x)
 inj:∀ x y:α,Enc.enc x=Enc.enc y->x=y
class Nn (α:Type)[Enc α]:Prop where
 nn:∀ x:α,Enc.enc x≠PyData.none
instance:Pln Int:=⟨0,λ _=>trivial,λ _ _ h=>by injection h⟩
instance:Pln Bool:=⟨0,λ _=>trivial,λ _ _ h=>by injection h⟩
instance:Pln Unit:=⟨0,λ _=>trivial,λ _ _ _=>rfl⟩
instance:Pln Tx:=⟨0,λ _=>trivial,λ _ _ h=>Tx.s_inj (by injection h)⟩
instance:Nn Int:=⟨λ _ h=>by cases h⟩
instance:Nn Bool:=⟨λ _ h=>by cases h⟩
instance:Nn Tx:=⟨λ _ h=>by cases h⟩
section
variable {α β γ δ ε:Type}[Enc α][Enc β][Enc γ][Enc δ][Enc ε]
theorem map_inj [i:Pln α]:∀ {xs ys:List α},xs.map (Enc.enc:α->D)=ys.map Enc.enc->xs=ys
 | [],[],_=>rfl
 | [],_::_,h=>by cases h
 | _::_,[],h=>by cases h
 | x::xs,y::ys,h=>by
  rw[List.map_cons,List.map_cons]at h
  injection h with h1 h2
  rw[i.inj x y h1,map_inj h2]
instance [i:Pln α]:Pln (List α):=⟨i.dp+1,λ xs d hd=>by
 obtain⟨x,hx,rfl⟩:=List.mem_map.mp hd
 exact i.pl x,λ xs ys h=>map_inj (by injection h)⟩
instance:Nn (List α):=⟨λ _ h=>by cases h⟩
instance [i:Pln α][Nn α]:Pln (Option α):=⟨i.dp,λ o=>by
 cases o with
 | none=>trivial
 | some x=>exact i.pl x,λ x y h=>by
 cases x with
 | none =>
  cases y with
  | none=>rfl
  | some y=>exact absurd h.symm (Nn.nn y)
 | some x =>
  cases y with
  | none=>exact absurd h (Nn.nn x)
  | some y=>rw[i.inj x y h]⟩
instance [i:Pln α][j:Pln β]:Pln (α×β):=⟨max i.dp j.dp+1,λ p d hd=>by
 simp at hd
 rcases hd with rfl | rfl
 ·exact oG (by omega) (i.pl p.1)
 ·exact oG (by omega) (j.pl p.2),λ p q h=>by
 have h:PyData.tuple [Enc.enc p.1,Enc.enc p.2]=PyData.tuple [Enc.enc q.1,Enc.enc q.2]:=h
 simp only[PyData.tuple.injEq,List.cons.injEq,and_true]at h
 exact Prod.ext (i.inj _ _ h.1) (j.inj _ _ h.2)⟩
instance:Nn (α×β):=⟨λ _ h=>by cases h⟩
instance [i:Pln α][j:Pln β][k:Pln γ]:Pln (Tp3 α β γ):=⟨i.dp+j.dp+k.dp+1,λ p d hd=>by
 simp at hd
 rcases hd with rfl | rfl | rfl
 ·exact oG (by omega) (i.pl p.a)
 ·exact oG (by omega) (j.pl p.b)
 ·exact oG (by omega) (k.pl p.c),λ p q h=>by
 have h:PyData.tuple [Enc.enc p.a,Enc.enc p.b,Enc.enc p.c]=PyData.tuple [Enc.enc q.a,Enc.enc q.b,Enc.enc q.c]:=h
 simp only[PyData.tuple.injEq,List.cons.injEq,and_true]at h
 obtain⟨p1,p2,p3⟩:=p
 obtain⟨q1,q2,q3⟩:=q
 rw[i.inj p1 q1 h.1,j.inj p2 q2 h.2.1,k.inj p3 q3 h.2.2]⟩
instance:Nn (Tp3 α β γ):=⟨λ _ h=>by cases h⟩
instance [i:Pln α][j:Pln β][k:Pln γ][l:Pln δ]:Pln (Tp4 α β γ δ):=⟨i.dp+j.dp+k.dp+l.dp+1,λ p d hd=>by
 simp at hd
 rcases hd with rfl | rfl | rfl | rfl
 ·exact oG (by omega) (i.pl p.a)
 ·exact oG (by omega) (j.pl p.b)
 ·exact oG (by omega) (k.pl p.c)
 ·exact oG (by omega) (l.pl p.d),λ p q h=>by
 have h:PyData.tuple [Enc.enc p.a,Enc.enc p.b,Enc.enc p.c,Enc.enc p.d]=PyData.tuple [Enc.enc q.a,Enc.enc q.b,Enc.enc q.c,Enc.enc q.d]:=h
 simp only[PyData.tuple.injEq,List.cons.injEq,and_true]at h
 obtain⟨p1,p2,p3,p4⟩:=p
 obtain⟨q1,q2,q3,q4⟩:=q
 rw[i.inj p1 q1 h.1,j.inj p2 q2 h.2.1,k.inj p3 q3 h.2.2.1,l.inj p4 q4 h.2.2.2]⟩
instance:Nn (Tp4 α β γ δ):=⟨λ _ h=>by cases h⟩
instance [i:Pln α][j:Pln β][k:Pln γ][l:Pln δ][m:Pln ε]:Pln (Tp5 α β γ δ ε):=⟨i.dp+j.dp+k.dp+l.dp+m.dp+1,λ p d hd=>by
 simp at hd
 rcases hd with rfl | rfl | rfl | rfl | rfl
 ·exact oG (by omega) (i.pl p.a)
 ·exact oG (by omega) (j.pl p.b)
 ·exact oG (by omega) (k.pl p.c)
 ·exact oG (by omega) (l.pl p.d)
 ·exact oG (by omega) (m.pl p.e),λ p q h=>by
 have h:PyData.tuple [Enc.enc p.a,Enc.enc p.b,Enc.enc p.c,Enc.enc p.d,Enc.enc p.e]=PyData.tuple [Enc.enc q.a,Enc.enc q.b,Enc.enc q.c,Enc.enc q.d,Enc.enc q.e]:=h
 simp only[PyData.tuple.injEq,List.cons.injEq,and_true]at h
 obtain⟨p1,p2,p3,p4,p5⟩:=p
 obtain⟨q1,q2,q3,q4,q5⟩:=q
 rw[i.inj p1 q1 h.1,j.inj p2 q2 h.2.1,k.inj p3 q3 h.2.2.1,l.inj p4 q4 h.2.2.2.1,m.inj p5 q5 h.2.2.2.2]⟩
instance:Nn (Tp5 α β γ δ ε):=⟨λ _ h=>by cases h⟩
theorem vI [i:Pln α](x:α)(h:i.dp<=11:=by decide):jR (Enc.enc x) (Enc.enc x)=.ok true:=by
 unfold jR;rw[if_pos ⟨oG (by omega) (i.pl x),oG (by omega) (i.pl x)⟩,oh]
end
end Ty
noncomputable section
namespace VS
open PySem L2
open PySem.W (dataLe)
section
variable {α β γ κ ε ν ω:Type}{A:LS}{t:T ε β}{F:β->ω}{B:β->LS}{X:ε->LS}
def sortT [Enc α](xs:List α):Option (List α):=if sortOk (xs.map Enc.enc)=true then some (xs.mergeSort (dataLe false Enc.enc)) else none
theorem vJ [Enc α]{xs ys:List α}(h:sortT xs=some ys):ys.Perm xs:=by
 unfold sortT at h
 split at h
 ·cases h
  exact List.mergeSort_perm xs _
 ·cases h
theorem aeh [Enc α](a b:α):dataLe false Enc.enc a b=true∨dataLe false Enc.enc b a=true:=by
 have:=(W.sortLe_total (PyProof.Rows.listOrd PyProof.Rows.itemOrd) false λ b:α=>W.keyToks (Enc.enc b)).total a b
 exact this
theorem aei [Enc α](a b c:α)(h1:dataLe false Enc.enc a b=true)(h2:dataLe false Enc.enc b c=true):dataLe false Enc.enc a c=true:=(W.sortLe_total (PyProof.Rows.listOrd PyProof.Rows.itemOrd) false λ b:α=>W.keyToks (Enc.enc b)).trans a b c h1 h2
theorem rH [Enc α]{xs ys:List α}(h:sortT xs=some ys):ys.Pairwise λ a b=>dataLe false Enc.enc a b=true:=by
 unfold sortT at h
 split at h
 ·cases h
  exact List.pairwise_mergeSort (le:=dataLe false Enc.enc) (λ a b c=>aei a b c) (λ a b=>by rw[Bool.or_eq_true];exact aeh a b) xs
 ·cases h
end
class SrtE (α:Type)[Enc α]:Prop where
 alike:∀ a b:α,W.alike (Enc.enc a) (Enc.enc b)=true
 kind:(∀ a:α,ahM (Enc.enc a)=true)∨∀ a:α,noTup (Enc.enc a)=true
 dep:∀ a:α,(Enc.enc a:D).depth<=60
 inj:∀ a b:α,W.keyToks (Enc.enc a)=W.keyToks (Enc.enc b)->a=b
class SrtA (α:Type)[Enc α]:Prop where
 alike:∀ a b:α,W.alike (Enc.enc a) (Enc.enc b)=true
 kind:∀ a:α,noTup (Enc.enc a)=true
 dep:∀ a:α,(Enc.enc a:D).depth=0
 one:∀ a:α,∃ k,W.keyToks (Enc.enc a)=[k]
 inj:∀ a b:α,W.keyToks (Enc.enc a)=W.keyToks (Enc.enc b)->a=b
instance:SrtA Int:=⟨λ a b=>by show W.alike (.int a) (.int b)=true;simp only[W.alike],λ a=>rfl,λ a=>by show PyData.depth (.int a)=0;simp only[PyData.depth],λ a=>⟨.inl a,by show W.keyToks (.int a)=_;simp only[W.keyToks]⟩,λ a b h=>by
 have h:W.keyToks (.int a)=W.keyToks (.int b):=h
 simp only[W.keyToks]at h
 simpa using h⟩
instance:SrtA Tx:=⟨λ a b=>by show W.alike (.str a.s) (.str b.s)=true;simp only[W.alike],λ a=>rfl,λ a=>by show PyData.depth (.str a.s)=0;simp only[PyData.depth],λ a=>⟨.inr a.s.cps.toList,by show W.keyToks (.str a.s)=_;simp only[W.keyToks]⟩,λ a b h=>by
 have h:W.keyToks (.str a.s)=W.keyToks (.str b.s):=h
 simp only[W.keyToks]at h
 have h:a.s.cps.toList=b.s.cps.toList:=by simpa using h
 exact Tx.s_inj (W.str_of_cps h)⟩
section
variable {α β γ:Type}[Enc α][Enc β][Enc γ]
instance (priority:=low)[i:SrtA α]:SrtE α:=⟨i.alike,.inr i.kind,λ a=>by rw[i.dep];omega,i.inj⟩
instance [i:SrtA α][j:SrtA β]:SrtE (α×β):=⟨λ a b=>by
 show W.alike (.tuple [Enc.enc a.1,Enc.enc a.2]) (.tuple [Enc.enc b.1,Enc.enc b.2])=true
 simp only[W.alike,W.alikeAll,i.alike,j.alike]
 rfl,.inl λ a=>rfl,λ a=>by
 show PyData.depth (.tuple [Enc.enc a.1,Enc.enc a.2])<=60
 simp only[PyData.depth,PyData.depthAll,i.dep,j.dep]
 omega,λ a b h=>by
 have h:W.keyToks (.tuple [Enc.enc a.1,Enc.enc a.2])=W.keyToks (.tuple [Enc.enc b.1,Enc.enc b.2]):=h
 obtain⟨k1,e1⟩:=i.one a.1
 obtain⟨k2,e2⟩:=j.one a.2
 obtain⟨m1,f1⟩:=i.one b.1
 obtain⟨m2,f2⟩:=j.one b.2
 simp only[W.keyToks,W.keyToksAll,e1,e2,f1,f2,List.cons_append,List.nil_append,List.cons.injEq,true_and,and_true]at h
 exact Prod.ext (i.inj _ _ (by rw[e1,f1,h.1])) (j.inj _ _ (by rw[e2,f2,h.2]))⟩
instance [i:SrtA α][j:SrtA β][k:SrtA γ]:SrtE (Tp3 α β γ):=⟨λ a b=>by
 show W.alike (.tuple [Enc.enc a.a,Enc.enc a.b,Enc.enc a.c]) (.tuple [Enc.enc b.a,Enc.enc b.b,Enc.enc b.c])=true
 simp only[W.alike,W.alikeAll,i.alike,j.alike,k.alike]
 rfl,.inl λ a=>rfl,λ a=>by
 show PyData.depth (.tuple [Enc.enc a.a,Enc.enc a.b,Enc.enc a.c])<=60
 simp only[PyData.depth,PyData.depthAll,i.dep,j.dep,k.dep]
 omega,λ a b h=>by
 have h:W.keyToks (.tuple [Enc.enc a.a,Enc.enc a.b,Enc.enc a.c])=W.keyToks (.tuple [Enc.enc b.a,Enc.enc b.b,Enc.enc b.c]):=h
 obtain⟨k1,e1⟩:=i.one a.a
 obtain⟨k2,e2⟩:=j.one a.b
 obtain⟨k3,e3⟩:=k.one a.c
 obtain⟨m1,f1⟩:=i.one b.a
 obtain⟨m2,f2⟩:=j.one b.b
 obtain⟨m3,f3⟩:=k.one b.c
 simp only[W.keyToks,W.keyToksAll,e1,e2,e3,f1,f2,f3,List.cons_append,List.nil_append,List.cons.injEq,true_and,and_true]at h
 have x1:=i.inj a.a b.a (by rw[e1,f1,h.1])
 have x2:=j.inj a.b b.b (by rw[e2,f2,h.2.1])
 have x3:=k.inj a.c b.c (by rw[e3,f3,h.2.2])
 cases a
 cases b
 simp only at x1 x2 x3
 rw[x1,x2,x3]⟩
theorem wO [i:SrtE α]{xs:List α}(h:xs.length<=1000000):sortT xs=some (xs.mergeSort (dataLe false Enc.enc)):=by
 unfold sortT;rw[if_pos];unfold sortOk
 simp only[Bool.and_eq_true,Bool.or_eq_true,List.all_eq_true,decide_eq_true_eq,List.length_map]
 refine⟨λ d hd e he=>?_,?_,λ d hd=>?_,sz _ h⟩
 ·obtain⟨x,_,rfl⟩:=List.mem_map.mp hd;obtain⟨y,_,rfl⟩:=List.mem_map.mp he;exact i.alike x y
 ·rcases i.kind with k | k
  ·exact .inl λ d hd=>by
    obtain⟨x,_,rfl⟩:=List.mem_map.mp hd;exact k x
  ·exact .inr λ d hd=>by
    obtain⟨x,_,rfl⟩:=List.mem_map.mp hd;exact k x
 ·obtain⟨x,_,rfl⟩:=List.mem_map.mp hd;exact i.dep x
theorem aj0 [i:SrtE α](a b:α)(h1:dataLe false Enc.enc a b=true)(h2:dataLe false Enc.enc b a=true):a=b:=by
 refine i.inj a b ?_
 have h1:(!PyProof.Rows.lexLt PyProof.Rows.itemOrd (W.keyToks (Enc.enc b)) (W.keyToks (Enc.enc a)))=true:=h1
 have h2:(!PyProof.Rows.lexLt PyProof.Rows.itemOrd (W.keyToks (Enc.enc a)) (W.keyToks (Enc.enc b)))=true:=h2
 rw[Bool.not_eq_true']at h1 h2;exact PyProof.Rows.lex_total _ _ h2 h1
theorem sort_one [i:SrtE α]{xs ys:List α}(hp:xs.Perm ys)(h1:xs.Pairwise λ a b=>dataLe false Enc.enc a b=true)(h2:ys.Pairwise λ a b=>dataLe false Enc.enc a b=true):xs=ys :=
 List.Perm.eq_of_pairwise (λ a b _ _ h1 h2=>aj0 a b h1 h2) h1 h2 hp
theorem ag3 [i:SrtE α]{xs ys:List α}(hp:ys.Perm xs)(hs:ys.Pairwise λ a b=>dataLe false Enc.enc a b=true)(h:xs.length<=1000000):sortT xs=some ys:=by
 rw[wO h]
 have e:=wO h
 rw[sort_one ((vJ e).trans hp.symm) (rH e) hs]
end
end VS
noncomputable section
namespace Ty
open PySem VS Lw L2
def uv (apA:(List Suit)):T Empty ((List (Int×Tx))) :=
 (T.forM (enT 0 apA) (([]:List (Int×Tx)):(List (Int×Tx))) (λ(i1:(Int×Suit)) found3=>(((T.ofO (catT i1.2.a i1.2.b)).bind λ x4 =>
 (T.forM x4 (found3:(List (Int×Tx))) (λ(i5:Oath) found7=>((T.gd (found7.length < sizeLine) <|
 .ok (found7++[(i1.1,i5.1)])):T Empty ((List (Int×Tx)))))).bind λ found7 =>
 .ok found7):T Empty ((List (Int×Tx)))))).bind λ found3 =>
 (T.ofO (sortT found3)).bind λ x8 =>
 .ok x8
def kE (apA:(List Suit)):T Empty (Marks) :=
 (mG apA ([]:Marks)).bind λ(r1,marks2) =>
 .ok marks2
def oA (apA:(List Suit)):T Empty ((List (Int×Tx))) :=
 (kE apA).bind λ r1 =>
 (T.ofO (sortT (List.map (λ p=>p.1) r1))).bind λ x2 =>
 .ok x2
end Ty
namespace VS
open PySem L2
section
variable {ε α β ν:Type}
def T.Wp (t:T ε α)(P:α->Prop):Prop:=∀ a,t=.ok a->P a
theorem aej {a:α}{P:α->Prop}(h:P a):(T.ok a:T ε α).Wp P:=λ b e=>by cases e;exact h
theorem wp_bind {t:T ε α}{k:α->T ε β}{Q:β->Prop}(h:∀ a,t=.ok a->(k a).Wp Q):(t.bind k).Wp Q:=λ b e=>by
 cases ht:t with
 | ok a=>rw[ht]at e;exact h a ht b e
 | er c x=>rw[ht]at e;cases e
 | no=>rw[ht]at e;cases e
theorem amy {p:Prop}[Decidable p]{t:T ε α}{P:α->Prop}(h:p->t.Wp P):(T.gd p t).Wp P:=λ b e=>by
 unfold T.gd at e
 split at e
 ·exact h (by assumption) b e
 ·cases e
theorem yN {o:Option α}{k:α->T ε β}{Q:β->Prop}(h:∀ a,o=some a->(k a).Wp Q):((T.ofO o).bind k).Wp Q:=λ b e=>by
 cases o with
 | none=>cases e
 | some a=>exact h a rfl b e
theorem ahW {c:Prop}[Decidable c]{t u:T ε α}{P:α->Prop}(h1:c->t.Wp P)(h2:¬ c->u.Wp P):(if c then t else u).Wp P:=by
 split
 ·exact h1 (by assumption)
 ·exact h2 (by assumption)
theorem aj1 {f:α->ν->T ε ν}(Inv:ν->Prop){v:ν}:∀ {xs:List α},Inv v->(∀ x v,Inv v->(f x v).Wp Inv)->(T.forM xs v f).Wp Inv:=by
 intro xs
 induction xs generalizing v with
 | nil=>intro h _;exact aej h
 | cons x xs ih=>intro h hs;exact wp_bind λ v' e=>ih (hs x v h v' e) hs
theorem aj2 {t:T ε α}{P Q:α->Prop}(h:t.Post P)(h2:t.Wp Q):t.Post λ a=>P a/\Q a:=by
 obtain⟨a,e,ha⟩:=h;exact⟨a,e,ha,h2 a e⟩
end
section
variable {κ α:Type}[DecidableEq κ]
def NdK (d:Dt κ α):Prop:=(d.map (·.1)).Nodup
theorem aek {d:Dt κ α}(h:NdK d)(k:κ)(v:α):NdK (dput d k v):=by
 unfold NdK dput at *
 split
 ·have:(d.map λ p=>if p.1=k then(p.1,v) else p).map (·.1)=d.map (·.1):=by
   rw[List.map_map];refine List.map_congr_left λ p _=>?_;show(if p.1=k then(p.1,v) else p).1=p.1
   split<;>rfl
  rw[this];exact h
 ·rename_i hn
  rw[List.map_append,List.nodup_append];refine⟨h,by simp,λ a ha b hb=>?_⟩
  simp at hb
  subst hb
  obtain⟨p,hp,rfl⟩:=List.mem_map.mp ha;exact λ z=>hn (List.any_eq_true.mpr ⟨p,hp,by simp[z]⟩)
theorem ag4 {d:Dt κ α}{k:κ}:k∈d.map (·.1)↔(dget d k).isSome=true:=by
 rw[mF,List.any_eq_true,List.mem_map]
 constructor
 ·rintro⟨p,h1,h2⟩;exact⟨p,h1,by simp[h2]⟩
 ·rintro⟨p,h1,h2⟩;exact⟨p,h1,by simpa using h2⟩
end
end VS
namespace Ty
open PySem VS L2
open PySem.W (dataLe)
theorem ael (us:List Suit)(ms:Marks)(h:NdK ms):(mG us ms).Wp λ p=>NdK p.2:=by
 unfold mG;refine yN λ x1 _=>amy λ _=>wp_bind λ v hv=>?_
 have:=aj1 (ε:=Empty) (λ v:Marks×List Bool=>NdK v.1) (v:=(ms,x1)) h (λ i v hi=>?_) v hv
 ·exact aej this
 ·obtain⟨m,apu⟩:=v
  dsimp only at hi ⊢
  refine yN λ x7 _=>wp_bind λ r8 _=>yN λ told9 _=>yN λ x10 _=>ahW (λ _=>ahW (λ _=>yN λ u _=>amy λ _=>aej (aek hi _ _)) λ _=>aej hi) λ _=>aej hi
theorem abZ {us:List Suit}(hs:SOk us){apu:List Bool}(ht:Settles us no0 apu):∃ m,kE us=.ok m/\NdK m/\(∀ k,(dget m k).isSome=brkB us apu k)/\m.length<=60:=by
 unfold kE;obtain⟨⟨t2,m⟩,e,⟨h1,h2,h3⟩,h4⟩:=aj2 (pB hs [] (by simp)) (ael us [] List.nodup_nil)
 have:t2=apu:=ul hs h1 ht
 subst this
 rw[e];exact⟨m,rfl,h4,λ k=>by rw[h2 k];simp[abf],by simpa using h3⟩
def je (us:List Suit):List (Int×Tx):=(enT 0 us).flatMap λ p=>(namesOf p.2).map λ n=>(p.1,n)
theorem amz {us:List Suit}{c:Int}{n:Tx}:(c,n)∈je us↔∃ (j:Nat) (u:Suit),c=j/\us[j]?=some u/\n∈namesOf u:=by
 unfold je;rw[List.mem_flatMap]
 constructor
 ·rintro⟨p,hp,hq⟩;obtain⟨j,hj,e⟩:=List.getElem_of_mem hp
  have e':=List.getElem?_eq_some_iff.mpr ⟨hj,e⟩
  rw[mH]at e';obtain⟨x,hx,rfl⟩:=Option.map_eq_some_iff.mp e';obtain⟨m,hm,e2⟩:=List.mem_map.mp hq
  cases e2
  rw[Nat.zero_add];exact⟨j,x,rfl,hx,hm⟩
 ·rintro⟨j,u,rfl,hu,hn⟩;refine⟨((j:Int),u),?_,List.mem_map.mpr ⟨n,hn,rfl⟩⟩;refine List.mem_of_getElem? (i:=j) ?_;rw[mH,hu,Nat.zero_add]
  rfl
theorem aap {us:List Suit}(hs:∀ u∈us,(namesOf u).Nodup):∀ i:Nat,((enT i us).flatMap λ p=>(namesOf p.2).map λ n=>(p.1,n)).Nodup:=by
 induction us with
 | nil=>intro i;exact List.nodup_nil
 | cons u us ih =>
  intro i;show(List.flatMap _ (((i:Int),u)::enT (i+1) us)).Nodup;rw[List.flatMap_cons,List.nodup_append];refine⟨?_,ih (λ w hw=>hs w (List.mem_cons_of_mem _ hw)) (i+1),?_⟩
  ·rw[List.Nodup,List.pairwise_map];exact List.Pairwise.imp (λ h z=>h (by cases z;rfl)) (hs u List.mem_cons_self)
  ·intro a ha b hb z
   subst z
   obtain⟨n,_,rfl⟩:=List.mem_map.mp ha;obtain⟨p,hp,hq⟩:=List.mem_flatMap.mp hb;obtain⟨m,_,e⟩:=List.mem_map.mp hq
   have e1:p.1=(i:Int):=congrArg Prod.fst e
   obtain⟨j,hj,e2⟩:=List.getElem_of_mem hp
   have e3:=List.getElem?_eq_some_iff.mpr ⟨hj,e2⟩
   rw[mH]at e3;obtain⟨x,hx,e4⟩:=Option.map_eq_some_iff.mp e3;rw[←e4]at e1
   dsimp only at e1
   omega
theorem SOk.nd {us:List Suit}(hs:SOk us):∀ u∈us,(namesOf u).Nodup:=λ u hu=>(hs.side u hu).1.nd
theorem uw {us:List Suit}(hs:SOk us){u:Suit}(hu:u∈us):(namesOf u).length<=24:=by
 unfold namesOf;rw[List.length_map];exact(hs.side u hu).2.1
theorem uU {us:List Suit}(hs:SOk us):∃ f,(T.forM (enT 0 us) (([]:List (Int×Tx)):(List (Int×Tx))) (λ(i1:(Int×Suit)) found3=>(((T.ofO (catT i1.2.a i1.2.b)).bind λ x4 =>
 (T.forM x4 (found3:(List (Int×Tx))) (λ(i5:Oath) found7=>((T.gd (found7.length < sizeLine) <|
 .ok (found7++[(i1.1,i5.1)])):T Empty ((List (Int×Tx)))))).bind λ found7 =>
 .ok found7):T Empty ((List (Int×Tx))))))=.ok f/\f=je us:=by
 have hl:=hs.len
 have key:=yI (ε:=Empty) (xs:=enT 0 us) (v:=([]:List (Int×Tx))) (f:=λ(i1:(Int×Suit)) found3=>(((T.ofO (catT i1.2.a i1.2.b)).bind λ x4 =>
  (T.forM x4 (found3:(List (Int×Tx))) (λ(i5:Oath) found7=>((T.gd (found7.length < sizeLine) <|
  .ok (found7++[(i1.1,i5.1)])):T Empty ((List (Int×Tx)))))).bind λ found7 =>
  .ok found7):T Empty ((List (Int×Tx))))) (λ pre found=>found=pre.flatMap (λ p=>(namesOf p.2).map λ n=>(p.1,n))/\found.length<=24 * pre.length) ⟨rfl,Nat.le_refl _⟩ ?_
 ·obtain⟨f,e,h,_⟩:=key;exact⟨f,e,h⟩
 ·rintro pre x post found hx ⟨h1,h2⟩;obtain⟨x1,x2,x3⟩:=amx hx
  have hm:x.2∈us:=List.mem_of_getElem? x2
  have hz:=hs.sz hm
  refine j7 (cR (by omega)) ?_;refine jP (P:=λ v=>v=found++(namesOf x.2).map λ n=>(x.1,n)) ?_ λ v hv=>bD ?_
  ·refine qu (yI (λ p2 v=>v=found++p2.map λ o:Oath=>(x.1,o.1)) (by simp) ?_) λ v hv=>?_
   ·rintro p2 o q2 v ho rfl
    have hlen:=congrArg List.length ho
    rw[List.length_append,List.length_append,List.length_cons]at hlen;refine qP (szl _ (by rw[List.length_append,List.length_map];omega)) (bD ?_);rw[List.map_append,List.append_assoc]
    rfl
   ·rw[hv];unfold namesOf;rw[List.map_map]
    rfl
  ·subst hv
   have hn:=uw hs hm
   refine⟨by rw[List.flatMap_append,h1];simp,?_⟩;rw[List.length_append,List.length_append,List.length_map,List.length_singleton]
   omega
theorem aem {us:List Suit}(hs:SOk us):(je us).length<=1440:=by
 have go:∀ (l:List (Int×Suit)),(∀ p∈l,(namesOf p.2).length<=24)->(l.flatMap λ p=>(namesOf p.2).map λ n=>(p.1,n)).length<=24 * l.length:=by
  intro l
  induction l with
  | nil=>intro _;exact Nat.le_refl _
  | cons p l ih =>
   intro h
   have h1:=h p List.mem_cons_self
   have h2:=ih λ q hq=>h q (List.mem_cons_of_mem _ hq)
   rw[List.flatMap_cons,List.length_append,List.length_map,List.length_cons]
   omega
 have:=go (enT 0 us) λ p hp=>by
  obtain⟨j,hj,e⟩:=List.getElem_of_mem hp
  have e':=List.getElem?_eq_some_iff.mpr ⟨hj,e⟩
  rw[mH]at e';obtain⟨x,hx,rfl⟩:=Option.map_eq_some_iff.mp e';exact uw hs (List.mem_of_getElem? hx)
 rw[wN]at this
 have hl:=hs.len
 unfold je
 omega
structure Oaths (us:List Suit)(ol:List (Int×Tx)):Prop where
 srt:ol.Pairwise λ a b=>dataLe false Enc.enc a b=true
 perm:ol.Perm (je us)
theorem oR {us:List Suit}(hs:SOk us):(uv us).Post λ p=>Oaths us p:=by
 unfold uv;obtain⟨f,e,rfl⟩:=uU hs
 have hl:=aem hs
 rw[e,T.ok_bind]
 have e2:=wO (xs:=je us) (by omega)
 exact j7 e2 (bD ⟨rH e2,vJ e2⟩)
theorem Oaths.mem {us:List Suit}{ol:List (Int×Tx)}(h:Oaths us ol){k:Int×Tx}:k∈ol↔k∈je us:=h.perm.mem_iff
theorem Oaths.nd {us:List Suit}(hs:SOk us){ol:List (Int×Tx)}(h:Oaths us ol):ol.Nodup:=h.perm.nodup_iff.mpr (aap hs.nd 0)
theorem yO {us:List Suit}(hs:SOk us){apu:List Bool}(ht:Settles us no0 apu){ol:List (Int×Tx)}(ho:Oaths us ol):oA us=.ok (ol.filter λ k=>brkB us apu k):=by
 unfold oA;obtain⟨m,e,h1,h2,h3⟩:=abZ hs ht;rw[e,T.ok_bind]
 have hp:(ol.filter λ k=>brkB us apu k).Perm (m.map (·.1)):=by
  rw[List.perm_ext_iff_of_nodup ((ho.nd hs).filter _) h1];intro k;rw[List.mem_filter,ag4,h2 k,ho.mem];refine⟨λ h=>h.2,λ h=>⟨?_,h⟩⟩;obtain⟨j,u,a1,a2,a3⟩:=qQ.mp h;obtain⟨i,w,b1,b2,b3,b4⟩:=hs.named j u k a1 a3;exact amz.mpr ⟨i,w,b1,b3,b4⟩
 rw[ag3 hp (ho.srt.filter _) (by rw[List.length_map];omega)]
 rfl
end Ty
noncomputable section
namespace VS
open PySem L2
section
variable {α β γ κ ε ν ω:Type}{A A':LS}{t:T ε β}{F:β->ω}{B:β->LS}{X:ε->LS}
theorem oE:∀ xs:List Tx,strsOf (xs.map Enc.enc)=some (xs.map Tx.s)
 | []=>rfl
 | x::xs=>by
  show(strsOf (xs.map Enc.enc)).map (x.s::·)=_;rw[oE xs]
  rfl
def cntT (xs:List Tx)(k:Tx):Int:=((xs.filter λ x=>decide (x=k)).length:Nat)
theorem aj3 (xs:List Tx)(k:Tx):dCount (.list (xs.map Enc.enc)) (Enc.enc k)=some (Enc.enc (cntT xs k)):=by
 show(strsOf (xs.map Enc.enc)).map (λ ys=>PyData.int (iK k.s ys:Nat))=_;rw[oE]
 have:iK k.s (xs.map Tx.s)=(xs.filter λ x=>decide (x=k)).length:=by
  unfold iK;rw[List.countP_map,List.countP_eq_length_filter]
  congr 1
  refine List.filter_congr λ x _=>?_;show(x.s.cps.toList == k.s.cps.toList)=decide (x=k)
  by_cases h:x=k
  ·subst h
   simp
  ·rw[decide_eq_false h];exact beq_eq_false_iff_ne.mpr λ z=>h (Tx.s_inj (W.str_of_cps z))
 show some (PyData.int (iK k.s (xs.map Tx.s):Nat))=_;rw[this]
 rfl
def ddN (xs:List Tx):Nat:=(ddS (xs.map Tx.s)).length
def aaq (xs:List Tx):Option Int:=if xs.length < 4000 then some (ddN xs:Int) else none
section
variable [DecidableEq κ][Enc κ][Enc α]
end
end
end VS
namespace VS
open PySem PySem.Spec PyProof.Rows L2
section
variable {ε ε' α β γ κ ω:Type}{A:LS}{t:T ε β}{F:β->ω}{B:β->LS}{X:ε->LS}
theorem vK {k:LS->R ω}{a:α}{t':α->T ε β}(h:SK A k (t' a) F B X):SK A k ((T.ofO (some a)).bind t') F B X:=h
theorem amA [Enc κ][Enc1 κ][i:KD1 κ](x:κ):kD (Enc1.k1 x)=(Enc.enc x:D):=by
 have h:=i.eq x
 generalize Enc1.k1 x=k at h
 generalize (Enc.enc x:D)=d at h
 cases d<;>cases h<;>rfl
end
section
variable {ε ε' α β γ κ ω:Type}{A:LS}{t:T ε β}{F:β->ω}{B:β->LS}{X:ε->LS}
end
section
variable {ε ε' α β γ κ ω:Type}{A:LS}{t:T ε β}{F:β->ω}{B:β->LS}{X:ε->LS}
end
section
variable {ε' α β γ κ ω:Type}{A:LS}{t:T Empty β}{F:β->ω}{B:β->LS}{X:Empty->LS}
end
section
variable {ε ε' α β γ κ ν ω:Type}{A:LS}{t:T ε β}{F:β->ω}{B:β->LS}{X:ε->LS}
end
section
variable {α β γ κ ν ω:Type}{A:LS}{t:T Empty β}{F:β->ω}{B:β->LS}{X:Empty->LS}
end
def lF (x:Tx):T Empty Bool:=if x.cs.length<=100000 then .ok (Lw.isN (x.cs.map (·.val))) else .no
theorem aen (x:Tx):SK [dv x] Lw.lu (lF x) (λ r=>.d (Enc.enc r)) (λ _=>[none]) XV:=by
 unfold lF
 split
 ·rename_i h
  have e:=Lw.abT (w:=x.cs.map λ c=>c.val) (by rw[List.length_map];exact h)
  rw[show Lw.sOf (x.cs.map λ c=>c.val)=x.s from rfl]at e;exact aec (ss:=[.d (.str x.s)]) (F:=λ r:Bool=>.d (.bool r)) e (Mt.refl _)
 exact tX
inductive Itx where
 | i (n:Int)
 | t (x:Tx)
deriving DecidableEq
instance:Enc Itx:=⟨λ x=>match x with
 | .i n=>Enc.enc n
 | .t x=>Enc.enc x⟩
def Itx.toT:Itx->Option Tx
 | .t x=>some x
 | .i _=>none
def Itx.toI:Itx->Option Int
 | .t _=>none
 | .i n=>some n
instance:Sh Itx where
 dep:=0
 nn:=λ x h=>by
  cases x with
  | i n=>cases h
  | t x=>cases h
 lay:=λ x=>by
  cases x with
  | i n=>exact(inferInstance:Sh Int).lay n
  | t x=>exact(inferInstance:Sh Tx).lay x
 dp:=λ x=>by
  cases x with
  | i n=>exact(inferInstance:Sh Int).dp n
  | t x=>exact(inferInstance:Sh Tx).dp x
 eqv:=λ x y=>by
  cases x with
  | i n =>
   cases y with
   | i m =>
    refine((inferInstance:Sh Int).eqv n m).trans ?_
    rw[decide_eq_decide]
    exact⟨λ h=>by rw[h],λ h=>by injection h⟩
   | t y =>
    rw[show decide (Itx.i n=Itx.t y)=false from decide_eq_false λ h=>by cases h]
    rfl
  | t x =>
   cases y with
   | i m =>
    rw[show decide (Itx.t x=Itx.i m)=false from decide_eq_false λ h=>by cases h]
    rfl
   | t y =>
    refine((inferInstance:Sh Tx).eqv x y).trans ?_
    rw[decide_eq_decide]
    exact⟨λ h=>by rw[h],λ h=>by injection h⟩
end VS
noncomputable section
namespace VS
open PySem L2
theorem aoC {σ:List Str}{x:Str}:σ.any (· == x)=true↔x∈σ:=by
 rw[List.any_eq_true];exact⟨λ⟨y,h1,h2⟩=>by rw[←beq_iff_eq.mp h2];exact h1,λ h=>⟨x,h,beq_self_eq_true x⟩⟩
theorem amB:∀ (xs σ:List Str),σ.Nodup->((xs.foldl ddAdd σ).length=σ.length+xs.length↔(σ++xs).Nodup)
 | [],σ,h=>by simp[h]
 | x::xs,σ,h=>by
  rw[List.foldl_cons,List.length_cons]
  have hle:=tL xs (ddAdd σ x)
  by_cases hx:x∈σ
  ·have e:ddAdd σ x=σ:=by unfold ddAdd;rw[if_pos (aoC.mpr hx)]
   rw[e]at hle ⊢
   constructor
   ·intro z;omega
   ·intro z;exact absurd hx λ hm=>(List.nodup_append.mp z).2.2 x hm x List.mem_cons_self rfl
  ·have e:ddAdd σ x=σ++[x]:=by unfold ddAdd;rw[if_neg (λ z=>hx (aoC.mp z))]
   rw[e]
   have hn:(σ++[x]).Nodup:=by
    rw[List.nodup_append];refine⟨h,by simp,λ a ha b hb z=>?_⟩
    simp at hb
    subst hb
    subst z
    exact hx ha
   have ih:=amB xs (σ++[x]) hn
   rw[List.length_append,List.length_singleton]at ih;rw[show σ.length+(xs.length+1)=σ.length+1+xs.length by omega,ih,List.append_assoc]
   rfl
theorem wQ (xs:List Tx):ddN xs=xs.length↔xs.Nodup:=by
 unfold ddN ddS
 have:=amB (xs.map Tx.s) [] List.nodup_nil
 rw[List.length_nil,Nat.zero_add,List.nil_append,List.length_map]at this;rw[this];unfold List.Nodup;rw[List.pairwise_map];exact⟨λ h=>h.imp λ hab z=>hab (by rw[z]),λ h=>h.imp λ hab z=>hab (Tx.s_inj z)⟩
theorem ahX (xs:List Tx):ddN xs<=xs.length:=by
 unfold ddN
 have:=ama (xs.map Tx.s)
 rw[List.length_map]at this;exact this
end VS
namespace Ty
open PySem VS L2
end Ty
namespace VS
open PySem L2
theorem wR {ε ε' α β ν:Type}{f:α->ν->T ε' (Option β×ν)}{P:β->Prop}:∀ {xs:List α} {acc:List β} {v:ν},acc.length+xs.length<=1000000->(∀ y∈acc,P y)->(∀ x∈xs,∀ v,(f x v).Post λ p=>∀ y,p.1=some y->P y)->(T.lcM' xs acc v f:T ε _).Post λ p=>p.1.length<=acc.length+xs.length/\∀ y∈p.1,P y
 | [],acc,v,_,ha,_=>bD ⟨by simp,ha⟩
 | x::xs,acc,v,hs,ha,h=>by
  rw[List.length_cons]at hs;unfold T.lcM';obtain⟨⟨o,v'⟩,e,hp⟩:=h x List.mem_cons_self v;rw[e]
  have h':=λ x hx=>h x (List.mem_cons_of_mem _ hx)
  cases o with
  | none =>
   show(T.lcM' xs acc v' f:T ε _).Post _;refine qu (wR (by omega) ha h') λ p hp=>⟨?_,hp.2⟩
   have:=hp.1
   rw[List.length_cons]
   omega
  | some y =>
   show(T.gd _ (T.lcM' xs (acc++[y]) v' f):T ε _).Post _;refine qP (szl _ (by omega)) (qu (wR (by rw[List.length_append,List.length_singleton];omega) ?_ h') λ p hp=>⟨?_,hp.2⟩)
   ·intro z hz;rcases List.mem_append.mp hz with hz | hz
    ·exact ha z hz
    ·rw[List.mem_singleton]at hz
     subst hz
     exact hp _ rfl
   ·have:=hp.1
    rw[List.length_append,List.length_singleton]at this;rw[List.length_cons]
    omega
theorem aj4 {ε ε' α β ν:Type}{f:α->ν->T ε' (Option β×ν)}{P:β->Prop}{xs:List α}{v:ν}(hs:xs.length<=1000000)(h:∀ x∈xs,∀ v,(f x v).Post λ p=>∀ y,p.1=some y->P y):(T.lc xs v f:T ε _).Post λ p=>p.1.length<=xs.length/\∀ y∈p.1,P y:=by
 refine qu (wR (acc:=[]) (by simpa using hs) (by simp) h) λ p hp=>⟨?_,hp.2⟩
 have:=hp.1
 simpa using this
end VS
namespace Ty
open PySem VS L2
end Ty
noncomputable section
noncomputable section
noncomputable section
namespace Ty
open PySem VS L2
theorem gM {κ α:Type}[DecidableEq κ]{d:Dt κ α}{k:κ}{v:α}(h:dget d k=some v):(k,v)∈d:=by
 unfold dget at h;obtain⟨p,hp,rfl⟩:=Option.map_eq_some_iff.mp h
 have h1:=List.mem_of_find?_eq_some hp
 have h2:p.1=k:=of_decide_eq_true (List.find?_some (p:=λ p:κ×α=>decide (p.1=k)) hp)
 rw[←h2];exact h1
theorem aj5 {α:Type}{xs:List α}{p:Int×α}(h:p∈enT 0 xs):∃ j:Nat,p.1=(j:Int)/\xs[j]?=some p.2:=by
 obtain⟨j,hj,e⟩:=List.getElem_of_mem h
 have e':=List.getElem?_eq_some_iff.mpr ⟨hj,e⟩
 rw[mH]at e';obtain⟨x,hx,rfl⟩:=Option.map_eq_some_iff.mp e';exact⟨j,by simp,hx⟩
abbrev Oa:=Int×Tx
theorem lA {α:Type}[DecidableEq α]:∀ {xs ys:List α},xs.Nodup->(∀ x∈xs,x∈ys)->xs.length<=ys.length
 | [],ys,_,_=>Nat.zero_le _
 | x::xs,ys,hn,hs=>by
  have hn':=List.nodup_cons.mp hn
  have hp:=List.perm_cons_erase (hs x List.mem_cons_self)
  have:=lA (xs:=xs) (ys:=ys.erase x) hn'.2 λ z hz=>by
   refine(List.mem_erase_of_ne λ q=>?_).mpr (hs z (List.mem_cons_of_mem _ hz))
   subst q
   exact hn'.1 hz
  rw[hp.length_eq,List.length_cons,List.length_cons]
  omega
section
variable {us:List Suit}{apu:List Bool}{plans:List (Option (List Oa))}{c:Nat}{u:Suit}
end
section
variable {us:List Suit}{apu:List Bool}{plans:List (Option (List Oa))}{c:Nat}{u:Suit}
end
section
variable {us:List Suit}{apu:List Bool}{plans:List (Option (List Oa))}{c:Nat}{u:Suit}
end
open PySem.W (dataLe)
section
variable {us:List Suit}{apu:List Bool}{c:Nat}{u:Suit}
end
end Ty
namespace Ty
open PySem VS L2
open PySem.W (dataLe)
end Ty
noncomputable section
namespace Ty
open PySem VS L2
open PySem.W (dataLe)
section
variable {us:List Suit}{apu:List Bool}{plans:List (Option (List Oa))}{c:Nat}{u:Suit}
end
end Ty
noncomputable section
noncomputable section
namespace Ty
open PySem VS L2
section
variable {us:List Suit}{apu:List Bool}{c:Nat}
end
end Ty
noncomputable section
namespace Ty
open PySem VS Lw L2
end Ty
namespace Ty
open PySem VS L2
abbrev Dd:=Tp4 Tx Tx Int Int
def comeX:Tx:=tx "come"
def riseX:Tx:=tx "rise"
def comes (ds:List Dd):Dt Tx Int:=ds.filterMap λ e=>if e.a=comeX then some (e.b,e.c) else none
theorem nO {d:Dt Tx Int}{n:Tx}(h:n∈d.map Prod.fst):∃ v,dget d n=some v/\(n,v)∈d:=by
 cases hg:dget d n with
 | some v=>exact⟨v,rfl,gM hg⟩
 | none =>
  exfalso
  have:(dget d n).isSome=true:=by
   rw[mF,List.any_eq_true];obtain⟨p,hp,e⟩:=List.mem_map.mp h;exact⟨p,hp,decide_eq_true e⟩
  rw[hg]at this
  cases this
end Ty
noncomputable section
namespace Ty
open PySem VS Lw L2
end Ty
namespace Ty
open PySem VS L2
abbrev Di:=Tp4 Tx Tx Int Itx
def dieX:Tx:=tx "die"
theorem wV:comeX≠dieX:=by decide
def uA (ds:List Di):Dt Tx Int:=ds.filterMap λ e=>if e.a=comeX then some (e.b,e.c) else none
def dies (ds:List Di):Dt Tx (Int×Itx):=ds.filterMap λ e=>if e.a=dieX then some (e.b,(e.c,e.d)) else none
abbrev Des:=Dt Tx (Int×Tx)
def toI (p:Tx×(Int×Tx)):Tx×(Int×Itx):=(p.1,(p.2.1,Itx.t p.2.2))
def deadB (de:Des)(n:Tx)(d:Int):Bool:=match dget de n with
 | some v=>decide (v.1<=d)
 | none=>false
structure Fd (ns:List Tx)(ds:List Di)(arr:Dt Tx Int)(de:Des):Prop where
 ar:arr=uA ds
 nm:arr.map Prod.fst=ns
 kd:∀ p∈arr,0<=p.2/\p.2<=9999
 di:dies ds=de.map toI
 dk:∀ p∈de,p.1∈ns/\p.2.2∈ns
 ok:∀ (pre post:Des) (n:Tx) (v:Int×Tx),de=pre++(n,v)::post->v.2≠n/\v.2∉pre.map Prod.fst
theorem wW {de:Des}{n:Tx}(h:dget de n=none):n∉de.map Prod.fst:=λ z=>by
 have:(dget de n).isSome=true:=by
  rw[mF,List.any_eq_true];obtain⟨p,hp,e⟩:=List.mem_map.mp z;exact⟨p,hp,decide_eq_true e⟩
 rw[h]at this
 cases this
theorem Fd.die {ns:List Tx}{ds:List Di}{arr:Dt Tx Int}{de:Des}(f:Fd ns ds arr de){x h:Tx}{d:Int}(hx:x∈ns)(hh:h∈ns)(hne:h≠x)(h2:dget de h=none):Fd ns (ds++[Tp4.mk (tx "die") x d (Itx.t h)]) arr (de++[(x,(d,h))]):=by
 refine⟨?_,f.nm,f.kd,?_,λ p hp=>?_,λ pre post n v e=>?_⟩
 ·rw[f.ar];unfold uA;rw[List.filterMap_append,List.filterMap_cons,if_neg (show ¬ (tx "die"=comeX) from λ z=>wV z.symm),List.filterMap_nil,List.append_nil]
 ·have:dies (ds++[Tp4.mk (tx "die") x d (Itx.t h)])=dies ds++[(x,(d,Itx.t h))]:=by
   unfold dies;rw[List.filterMap_append,List.filterMap_cons,if_pos (show tx "die"=dieX from rfl),List.filterMap_nil]
  rw[this,f.di,List.map_append]
  rfl
 ·rcases List.mem_append.mp hp with hp | hp
  ·exact f.dk p hp
  ·rw[List.mem_singleton]at hp
   subst hp
   exact⟨hx,hh⟩
 ·rcases List.eq_nil_or_concat post with rfl | ⟨q,l,rfl⟩
  ·have e:=List.append_inj' e rfl
   obtain⟨e1,e2⟩:=e
   cases e2
   subst e1
   exact⟨hne,wW h2⟩
  ·rw[List.concat_eq_append,←List.cons_append,←List.append_assoc]at e
   have e:=List.append_inj' e rfl
   exact f.ok pre q n v e.1
end Ty
namespace VS
open PySem PySem.Spec PyProof.Rows L2
section
variable {α β γ κ ν ω:Type}{A:LS}{t:T Empty β}{F:β->ω}{B:β->LS}{X:Empty->LS}
theorem ag6 {α:Type}[Enc α](h:∀ x:α,scal (Enc.enc x)=true)(xs:List α):(xs.map (Enc.enc:α->D)).all scal=true:=by
 rw[List.all_map,List.all_eq_true];exact λ x _=>h x
theorem aj6 (xs:List Tx):(xs.map (Enc.enc:Tx->D)).all scal=true:=ag6 (λ _=>rfl) xs
end
end VS
noncomputable section
namespace Ty
open PySem VS L2
theorem abk:¬ (dieX=comeX∨dieX=riseX):=by decide
def rkOf (e:Di):Option (Tp3 Tx Int Itx):=if e.a=comeX∨e.a=riseX then some ⟨e.b,e.c,e.d⟩ else none
def rkI (r:Tp3 Tx Int Int):Tp3 Tx Int Itx:=⟨r.a,r.b,Itx.i r.c⟩
structure F4 (ns:List Tx)(ds:List Di)(arr:Dt Tx Int)(rks:List (Tp3 Tx Int Int))(de:Des):Prop where
 fd:Fd ns ds arr de
 rk:ds.filterMap rkOf=rks.map rkI
 kc:∀ e∈ds,0<=e.c
 ad:∀ p∈arr,p.2<=5
theorem F4.len {ns:List Tx}{ds:List Di}{arr:Dt Tx Int}{rks:List (Tp3 Tx Int Int)}{de:Des}(f:F4 ns ds arr rks de):arr.length<=ds.length/\rks.length<=ds.length/\de.length<=ds.length/\ns.length=arr.length:=by
 refine⟨?_,?_,?_,?_⟩
 ·rw[f.fd.ar];exact List.length_filterMap_le _ _
 ·have:=congrArg List.length f.rk
  rw[List.length_map]at this;rw[←this];exact List.length_filterMap_le _ _
 ·have:=congrArg List.length f.fd.di
  rw[List.length_map]at this;rw[←this];exact List.length_filterMap_le _ _
 ·rw[←f.fd.nm,List.length_map]
theorem F4.come {ns:List Tx}{ds:List Di}{arr:Dt Tx Int}{rks:List (Tp3 Tx Int Int)}{de:Des}(f:F4 ns ds arr rks de){n:Tx}{d w:Int}(h:0<=d/\d<=5):F4 (ns++[n]) (ds++[Tp4.mk (tx "come") n d (Itx.i w)]) (arr++[(n,d)]) (rks++[Tp3.mk n d w]) de:=by
 refine⟨⟨?_,?_,λ p hp=>?_,?_,λ p hp=>?_,f.fd.ok⟩,?_,λ e he=>?_,λ p hp=>?_⟩
 ·rw[f.fd.ar];unfold uA;rw[List.filterMap_append,List.filterMap_cons,if_pos (show tx "come"=comeX from rfl),List.filterMap_nil]
 ·rw[List.map_append,f.fd.nm]
  rfl
 ·rcases List.mem_append.mp hp with hp | hp
  ·exact f.fd.kd p hp
  ·rw[List.mem_singleton]at hp
   subst hp
   exact⟨h.1,Int.le_trans h.2 (by decide)⟩
 ·have:=f.fd.di
  unfold dies at this ⊢;rw[List.filterMap_append,this,List.filterMap_cons,if_neg (show ¬ (tx "come"=dieX) from wV),List.filterMap_nil,List.append_nil]
 ·exact⟨List.mem_append_left _ (f.fd.dk p hp).1,List.mem_append_left _ (f.fd.dk p hp).2⟩
 ·rw[List.filterMap_append,f.rk,List.map_append]
  rfl
 ·rcases List.mem_append.mp he with he | he
  ·exact f.kc e he
  ·rw[List.mem_singleton]at he
   subst he
   exact h.1
 ·rcases List.mem_append.mp hp with hp | hp
  ·exact f.ad p hp
  ·rw[List.mem_singleton]at hp
   subst hp
   exact h.2
theorem F4.die {ns:List Tx}{ds:List Di}{arr:Dt Tx Int}{rks:List (Tp3 Tx Int Int)}{de:Des}(f:F4 ns ds arr rks de){x h:Tx}{d:Int}(h0:0<=d)(hx:x∈ns)(hh:h∈ns)(hne:h≠x)(h2:dget de h=none):F4 ns (ds++[Tp4.mk (tx "die") x d (Itx.t h)]) arr rks (de++[(x,(d,h))]):=by
 refine⟨f.fd.die hx hh hne h2,?_,λ e he=>?_,f.ad⟩
 ·rw[List.filterMap_append,f.rk]
  have:[Tp4.mk (tx "die") x d (Itx.t h)].filterMap rkOf=[]:=by
   rw[List.filterMap_cons,show rkOf (Tp4.mk (tx "die") x d (Itx.t h))=none from if_neg abk]
   rfl
  rw[this,List.append_nil]
 ·rcases List.mem_append.mp he with he | he
  ·exact f.kc e he
  ·rw[List.mem_singleton]at he
   subst he
   exact h0
theorem ani:riseX≠comeX/\riseX≠dieX:=by decide
theorem F4.rise {ns:List Tx}{ds:List Di}{arr:Dt Tx Int}{rks:List (Tp3 Tx Int Int)}{de:Des}(f:F4 ns ds arr rks de){n:Tx}{d w:Int}(h0:0<=d):F4 ns (ds++[Tp4.mk (tx "rise") n d (Itx.i w)]) arr (rks++[Tp3.mk n d w]) de:=by
 refine⟨⟨?_,f.fd.nm,f.fd.kd,?_,f.fd.dk,f.fd.ok⟩,?_,λ e he=>?_,f.ad⟩
 ·rw[f.fd.ar];unfold uA;rw[List.filterMap_append,List.filterMap_cons,if_neg (show ¬ (tx "rise"=comeX) from ani.1),List.filterMap_nil,List.append_nil]
 ·have:=f.fd.di
  unfold dies at this ⊢;rw[List.filterMap_append,this,List.filterMap_cons,if_neg (show ¬ (tx "rise"=dieX) from ani.2),List.filterMap_nil,List.append_nil]
 ·rw[List.filterMap_append,f.rk,List.map_append]
  have:[Tp4.mk (tx "rise") n d (Itx.i w)].filterMap rkOf=[rkI ⟨n,d,w⟩]:=by
   rw[List.filterMap_cons,show rkOf (Tp4.mk (tx "rise") n d (Itx.i w))=some ⟨n,d,Itx.i w⟩ from if_pos (.inr rfl)]
   rfl
  rw[this]
  rfl
 ·rcases List.mem_append.mp he with he | he
  ·exact f.kc e he
  ·rw[List.mem_singleton]at he
   subst he
   exact h0
end Ty
namespace VS
open PySem PySem.Spec PyProof.Rows L2
section
variable {ε ε' α β γ δ κ ω:Type}{A:LS}{t:T ε β}{F:β->ω}{B:β->LS}{X:ε->LS}
class KDt (κ:Type)[Enc κ][EncK κ]:Prop where
 eq:∀ x:κ,(Enc.enc x:D)=.tuple ((EncK.ks x).map kD)
instance {κ μ:Type}[Enc κ][Enc1 κ][KD1 κ][Enc μ][Enc1 μ][KD1 μ]:KDt (κ×μ):=⟨λ p=>by
 show PyData.tuple [Enc.enc p.1,Enc.enc p.2]=PyData.tuple [kD (Enc1.k1 p.1),kD (Enc1.k1 p.2)]
 rw[amA,amA]⟩
end
class Sc (α:Type)[Enc α][DecidableEq α] where
 dep:Nat
 lay:∀ x:α,(Enc.enc x:D).canLay0=true
 dp:∀ x:α,(Enc.enc x:D).depth<=dep
 eqv:∀ x y:α,(Enc.enc x:D).eqv (Enc.enc y)=decide (x=y)
instance (priority:=low){α:Type}[Enc α][DecidableEq α][i:Sh α]:Sc α:=⟨i.dep,i.lay,i.dp,i.eqv⟩
instance {α:Type}[Enc α][DecidableEq α][i:Sh α]:Sc (Option α):=⟨i.dep,λ x=>by
 cases x with
 | none=>show PyData.canLay0 .none=true;unfold PyData.canLay0;rfl
 | some a=>exact i.lay a,λ x=>by
 cases x with
 | none=>show PyData.depth .none<=_;unfold PyData.depth;exact Nat.zero_le _
 | some a=>exact i.dp a,ajP⟩
instance {α β γ δ:Type}[Enc α][DecidableEq α][i:Sc α][Enc β][DecidableEq β][j:Sc β][Enc γ][DecidableEq γ][k:Sc γ][Enc δ][DecidableEq δ][l:Sc δ]:Sh (Tp4 α β γ δ) where
 dep:=max i.dep (max j.dep (max k.dep l.dep))+1
 nn:=λ _ h=>by cases h
 lay:=λ p=>by
  show PyData.canLay0 (.tuple [Enc.enc p.a,Enc.enc p.b,Enc.enc p.c,Enc.enc p.d])=true
  simp[PyData.canLay0,PyData.canLayAll0,Sc.lay p.a,Sc.lay p.b,Sc.lay p.c,Sc.lay p.d]
 dp:=λ p=>by
  show PyData.depth (.tuple [Enc.enc p.a,Enc.enc p.b,Enc.enc p.c,Enc.enc p.d])<=_
  have h1:=i.dp p.a
  have h2:=j.dp p.b
  have h3:=k.dp p.c
  have h4:=l.dp p.d
  simp only[PyData.depth,PyData.depthAll]
  omega
 eqv:=λ p q=>by
  show PyData.eqv (.tuple [Enc.enc p.a,Enc.enc p.b,Enc.enc p.c,Enc.enc p.d]) (.tuple [Enc.enc q.a,Enc.enc q.b,Enc.enc q.c,Enc.enc q.d])=_
  simp only[PyData.eqv,PyData.eqvAll,Sc.eqv,Bool.and_true]
  have e:decide (p=q)=decide (p.a=q.a/\p.b=q.b/\p.c=q.c/\p.d=q.d):=decide_eq_decide.mpr ajO
  rw[e]
  by_cases h1:p.a=q.a<;>by_cases h2:p.b=q.b<;>by_cases h3:p.c=q.c<;>by_cases h4:p.d=q.d<;>simp[h1,h2,h3,h4]
end VS
noncomputable section
namespace Ty
open PySem VS Lw L2
def nQ (name:Tx)(apv:(Dt Tx Int))(apw:RkL)(apx:(Dt Tx (Int×Tx))):T Empty ((Option (Int×Tx))) :=
 .ok (dget apx name)
end Ty
namespace Ty
open PySem VS L2
abbrev Stp:=Tp4 Int Tx (Option Tx) Tx
def Gst (ns:List Tx)(st:List Stp):Prop:=∃ l,st.getLast?=some l/\l.d∈ns
theorem Gst.snoc {ns:List Tx}(st:List Stp){l:Stp}(h:l.d∈ns):Gst ns (st++[l]):=⟨l,by simp,h⟩
end Ty
namespace Ty
open PySem VS L2
def PG (ns:List Tx)(n:Nat)(st:List Stp):Prop:=Gst ns st/\st.length<=1+51 * n
end Ty
noncomputable section
namespace Ty
open PySem VS L2
def Fit (evs:List Stp)(de:Des)(x y:Stp):Prop:=x.a<=y.a/\y.c=some x.d/\((y.b=tx "given"/\y∈evs)∨(y.b=tx "won"/\Tp4.mk y.a (tx "won") none y.d∈evs)∨(y.b=tx "left"/\∃ v,dget de x.d=some v/\v.1<=y.a/\y.d=v.2/\(y.a=v.1∨y.a=x.a)))
end Ty
noncomputable section
noncomputable section
namespace Ty
open PySem VS L2
open PySem.W (dataLe)
def hF (de:Des)(d:Int):Nat->Tx->Tx
 | 0,n=>n
 | k+1,n=>match dget de n with
  | some v=>if v.1<=d then hF de d k v.2 else n
  | none=>n
def hr (de:Des)(d:Int)(n:Tx):Tx:=hF de d 50 n
abbrev ao5:=Tp4 Int Tx Tx Int
end Ty
namespace Ty
open PySem VS L2
open PySem.W (dataLe)
end Ty
namespace Ty
open PySem VS L2
theorem aae {x:Tx}(c:Int):∀ {ns:List Tx},ns.Nodup->x∈ns->(ns.map λ n=>if x=n then c else 0).sum=c
 | [],_,h=>by cases h
 | n::ns,hn,h=>by
  rw[List.nodup_cons]at hn;rw[List.map_cons,List.sum_cons]
  by_cases z:x=n
  ·have h0:∀ {ms:List Tx},x∉ms->(ms.map λ n=>if x=n then c else 0).sum=0:=by
    intro ms
    induction ms with
    | nil=>intro _;rfl
    | cons m ms ih =>
     intro hm;rw[List.mem_cons,not_or]at hm;rw[List.map_cons,List.sum_cons,if_neg hm.1,ih hm.2]
     rfl
   rw[if_pos z,h0 (by rw[z];exact hn.1)]
   omega
  ·rw[if_neg z,aae c hn.2 ((List.mem_cons.mp h).resolve_left z)]
   omega
end Ty
namespace VS
open PySem PySem.Spec PyProof.Rows L2
class ScT (α:Type)[Enc α]:Prop where
 sc:∀ x:α,scal (Enc.enc x)=true
instance:ScT Int:=⟨λ _=>rfl⟩
instance:ScT Tx:=⟨λ _=>rfl⟩
instance:ScT Bool:=⟨λ _=>rfl⟩
class ItT (α:Type)[Enc α]:Prop where
 it:∀ x:α,itemOk (Enc.enc x)=true
instance (priority:=low)[Enc α][i:ScT α]:ItT α:=⟨λ x=>by
 unfold itemOk
 rw[i.sc]
 rfl⟩
instance {κ μ:Type}[Enc κ][Enc1 κ][KD1 κ][Enc μ][Enc1 μ][KD1 μ]:ItT (κ×μ):=⟨λ p=>by
 show(scal (Enc.enc p)||(keysD (Enc.enc p)).isSome)=true
 rw[KDs.eq p]
 rfl⟩
section
variable {ε ε' α β γ δ κ ω:Type}{A:LS}{t:T ε β}{F:β->ω}{B:β->LS}{X:ε->LS}
end
end VS
noncomputable section
namespace VS
open PySem PySem.Spec PyProof.Rows L2
section
variable {ε ε' α β γ δ κ ω:Type}{A:LS}{t:T ε β}{F:β->ω}{B:β->LS}{X:ε->LS}
end
end VS
noncomputable section
namespace Ty
open PySem VS Lw L2
def jH (apA:(List Suit))(case_:Int):T Unit (Suit) :=
 if((decide (case_ < (0:Int)))||(decide (((List.length apA:Nat):Int)<=case_)))=true then(.er 7 ()) else((T.ofO (atI apA case_)).bind λ x1 =>
 .ok x1)
def lG (apA:(List Suit))(case_:Int)(name:Tx):T Unit (Unit) :=
 (jH apA case_).bind λ r1 =>
 (T.ofO (catT r1.a r1.b)).bind λ x2 =>
 (T.lcp x2 (λ(i3:Oath)=>true) (λ i3=>i3.1)).bind λ l4 =>
 if(!(memT name l4))=true then(.er 8 ()) else(.ok ())
end Ty
namespace Ty
open PySem VS L2
section
variable {α β γ ν:Type}
end
variable {us:List Suit}
theorem wX {c:Nat}{u:Suit}(hu:us[c]?=some u):jH us c=.ok u:=by
 have hc:=(List.getElem?_eq_some_iff.mp hu).1
 unfold jH;rw[if_neg (by simp only[Bool.or_eq_true,decide_eq_true_eq];omega),jY,hu]
 rfl
theorem yP {c:Int}(h:c < 0∨(us.length:Int)<=c):jH us c=.er 7 ():=by
 unfold jH;rw[if_pos (by simpa only[Bool.or_eq_true,decide_eq_true_eq] using h)]
end Ty
namespace VS
open PySem PySem.Spec PyProof.Rows L2
section
variable {ε ε' α β γ δ κ ω:Type}{A:LS}{t:T ε β}{F:β->ω}{B:β->LS}{X:ε->LS}
end
section
variable {ε α β γ κ ν ω:Type}{A:LS}{t:T ε β}{F:β->ω}{B:β->LS}{X:ε->LS}
end
end VS
noncomputable section
namespace Ty
open PySem VS Lw L2
def aC (number:Int)(low:Int)(high:Int):T Unit (Unit) :=
 if((decide (number < low))||(decide (high < number)))=true then(.er 3 ()) else(.ok ())
def gQ (name:Tx)(day:Int)(weight:Int)(apv:(Dt Tx Int))(apw:RkL)(apx:(Dt Tx (Int×Tx))):T Unit ((Dt Tx Int)×RkL) :=
 (T.up (lF name)).bind λ r1 =>
 if(!r1)=true then(.er 2 ()) else((aC day ((0:Int)) ((9999:Int))).bind λ _ =>
 (aC weight ((1:Int)) ((1000:Int))).bind λ _ =>
 if((dget apv name).isSome)=true then(.er 5 ()) else(if(decide ((40:Int)<=((List.length apv:Nat):Int)))=true then(.er 12 ()) else(T.gd (apv.length < sizeLine) <|
 T.gd (apw.length < sizeLine) <|
 .ok ((dput apv name day),(apw++[(Tp3.mk name day weight)])))))
def aY (name:Tx)(apv:(Dt Tx Int))(apw:RkL)(apx:(Dt Tx (Int×Tx))):T Unit (Unit) :=
 if(!(dget apv name).isSome)=true then(.er 4 ()) else(.ok ())
def aH (name:Tx)(day:Int)(apv:(Dt Tx Int))(apw:RkL)(apx:(Dt Tx (Int×Tx))):T Unit (Unit) :=
 (T.ofO (dget apv name)).bind λ v1 =>
 if(decide (day < v1))=true then(.er 9 ()) else(.ok ())
def dO (name:Tx)(day:Int)(apv:(Dt Tx Int))(apw:RkL)(apx:(Dt Tx (Int×Tx))):T Unit (Unit) :=
 if((dget apx name).isSome)=true then((T.ofO (dget apx name)).bind λ v1 =>
 if(decide (v1.1<=day))=true then(.er 10 ()) else(.ok ())) else(.ok ())
def ji (name:Tx)(day:Int)(weight:Int)(apv:(Dt Tx Int))(apw:RkL)(apx:(Dt Tx (Int×Tx))):T Unit (RkL) :=
 (aC day ((0:Int)) ((9999:Int))).bind λ _ =>
 (aC weight ((1:Int)) ((1000:Int))).bind λ _ =>
 (aY name apv apw apx).bind λ _ =>
 (aH name day apv apw apx).bind λ _ =>
 (dO name day apv apw apx).bind λ _ =>
 T.gd (apw.length < sizeLine) <|
 .ok (apw++[(Tp3.mk name day weight)])
def jF (name:Tx)(day:Int)(heir:Tx)(apv:(Dt Tx Int))(apw:RkL)(apx:(Dt Tx (Int×Tx))):T Unit ((Dt Tx (Int×Tx))) :=
 (aC day ((0:Int)) ((9999:Int))).bind λ _ =>
 (aY name apv apw apx).bind λ _ =>
 (aY heir apv apw apx).bind λ _ =>
 (aH name day apv apw apx).bind λ _ =>
 (aH heir day apv apw apx).bind λ _ =>
 if((dget apx name).isSome)=true then(.er 10 ()) else(if((decide (heir=name))||((dget apx heir).isSome))=true then(.er 11 ()) else(T.gd (apx.length < sizeLine) <|
 .ok (dput apx name (day,heir))))
def bT (name:Tx)(day:Int)(apv:(Dt Tx Int))(apw:RkL)(apx:(Dt Tx (Int×Tx))):T Unit (Int) :=
 (aC day ((0:Int)) ((9999:Int))).bind λ _ =>
 (aY name apv apw apx).bind λ _ =>
 (aH name day apv apw apx).bind λ _ =>
 (T.up (((T.forM apw (((0:Int),(0:Int)):Int×Int) (λ(i6:(Tp3 Tx Int Int)) (last9,found10)=>((if((decide (i6.a=name))&&((decide (last9<=i6.b))&&(decide (i6.b<=day))))=true then(.ok (i6.b,i6.c)) else(.ok (last9,found10))):T Empty (Int×Int)))).bind λ(last9,found10) =>
 .ok (last9,found10)):T Empty (Int×Int))).bind λ(last4,found5) =>
 .ok found5
end Ty
namespace Ty
open PySem VS L2
structure F5 (ds:List Di)(arr:Dt Tx Int)(rks:List (Tp3 Tx Int Int))(de:Des):Prop where
 fd:Fd (arr.map Prod.fst) ds arr de
 rk:ds.filterMap rkOf=rks.map rkI
 kc:∀ e∈ds,0<=e.c
section
variable {ds:List Di}{arr:Dt Tx Int}{rks:List (Tp3 Tx Int Int)}{de:Des}
theorem F5.len (f:F5 ds arr rks de):arr.length<=ds.length/\rks.length<=ds.length/\de.length<=ds.length:=by
 refine⟨?_,?_,?_⟩
 ·rw[f.fd.ar];exact List.length_filterMap_le _ _
 ·have:=congrArg List.length f.rk
  rw[List.length_map]at this;rw[←this];exact List.length_filterMap_le _ _
 ·have:=congrArg List.length f.fd.di
  rw[List.length_map]at this;rw[←this];exact List.length_filterMap_le _ _
theorem F5.come (f:F5 ds arr rks de){n:Tx}{d w:Int}(h:0<=d/\d<=9999):F5 (ds++[Tp4.mk (tx "come") n d (Itx.i w)]) (arr++[(n,d)]) (rks++[Tp3.mk n d w]) de:=by
 refine⟨⟨?_,rfl,λ p hp=>?_,?_,λ p hp=>?_,f.fd.ok⟩,?_,λ e he=>?_⟩
 ·rw[f.fd.ar];unfold uA;rw[List.filterMap_append,List.filterMap_cons,if_pos (show tx "come"=comeX from rfl),List.filterMap_nil]
 ·rcases List.mem_append.mp hp with hp | hp
  ·exact f.fd.kd p hp
  ·rw[List.mem_singleton]at hp
   subst hp
   exact h
 ·have:=f.fd.di
  unfold dies at this ⊢;rw[List.filterMap_append,this,List.filterMap_cons,if_neg (show ¬ (tx "come"=dieX) from wV),List.filterMap_nil,List.append_nil]
 ·rw[List.map_append];exact⟨List.mem_append_left _ (f.fd.dk p hp).1,List.mem_append_left _ (f.fd.dk p hp).2⟩
 ·rw[List.filterMap_append,f.rk,List.map_append]
  rfl
 ·rcases List.mem_append.mp he with he | he
  ·exact f.kc e he
  ·rw[List.mem_singleton]at he
   subst he
   exact h.1
theorem F5.die (f:F5 ds arr rks de){x h:Tx}{d:Int}(h0:0<=d)(hx:x∈arr.map Prod.fst)(hh:h∈arr.map Prod.fst)(hne:h≠x)(h2:dget de h=none):F5 (ds++[Tp4.mk (tx "die") x d (Itx.t h)]) arr rks (de++[(x,(d,h))]):=by
 refine⟨f.fd.die hx hh hne h2,?_,λ e he=>?_⟩
 ·rw[List.filterMap_append,f.rk]
  have:[Tp4.mk (tx "die") x d (Itx.t h)].filterMap rkOf=[]:=by
   rw[List.filterMap_cons,show rkOf (Tp4.mk (tx "die") x d (Itx.t h))=none from if_neg abk]
   rfl
  rw[this,List.append_nil]
 ·rcases List.mem_append.mp he with he | he
  ·exact f.kc e he
  ·rw[List.mem_singleton]at he
   subst he
   exact h0
theorem F5.rise (f:F5 ds arr rks de){n:Tx}{d w:Int}(h0:0<=d):F5 (ds++[Tp4.mk (tx "rise") n d (Itx.i w)]) arr (rks++[Tp3.mk n d w]) de:=by
 refine⟨⟨?_,f.fd.nm,f.fd.kd,?_,f.fd.dk,f.fd.ok⟩,?_,λ e he=>?_⟩
 ·rw[f.fd.ar];unfold uA;rw[List.filterMap_append,List.filterMap_cons,if_neg (show ¬ (tx "rise"=comeX) from ani.1),List.filterMap_nil,List.append_nil]
 ·have:=f.fd.di
  unfold dies at this ⊢;rw[List.filterMap_append,this,List.filterMap_cons,if_neg (show ¬ (tx "rise"=dieX) from ani.2),List.filterMap_nil,List.append_nil]
 ·rw[List.filterMap_append,f.rk,List.map_append]
  have:[Tp4.mk (tx "rise") n d (Itx.i w)].filterMap rkOf=[rkI ⟨n,d,w⟩]:=by
   rw[List.filterMap_cons,show rkOf (Tp4.mk (tx "rise") n d (Itx.i w))=some ⟨n,d,Itx.i w⟩ from if_pos (.inr rfl)]
   rfl
  rw[this]
  rfl
 ·rcases List.mem_append.mp he with he | he
  ·exact f.kc e he
  ·rw[List.mem_singleton]at he
   subst he
   exact h0
end
theorem lH {x:Tx}(h:x.cs.length<=100000):lF x=.ok (Lw.isN (x.cs.map (·.val))):=if_pos h
def kd:Nat->Tx
 | 2=>tx "NoName"
 | 3=>tx "NoMeasure"
 | 4=>tx "Unknown"
 | 5=>tx "Taken"
 | 9=>tx "NotYet"
 | 10=>tx "Dead"
 | 11=>tx "NoHeir"
 | _=>tx "TooMany"
section
variable {ds:List Di}{arr:Dt Tx Int}{rks:List (Tp3 Tx Int Int)}{de:Des}
theorem aar (a lo hi:Int):aC a lo hi=if a < lo∨hi < a then .er 3 () else .ok ():=by
 unfold aC
 simp only[Bool.or_eq_true,decide_eq_true_eq]
theorem wY (n:Tx):aY n arr rks de=if(dget arr n).isNone=true then .er 4 () else .ok ():=by
 unfold aY
 cases dget arr n<;>rfl
theorem wZ {n:Tx}{v:Int}(h:dget arr n=some v)(d:Int):aH n d arr rks de=if d < v then .er 9 () else .ok ():=by
 unfold aH;rw[h,aa]
 simp only[decide_eq_true_eq]
theorem abl (n:Tx)(d:Int):dO n d arr rks de=if deadB de n d=true then .er 10 () else .ok ():=by
 unfold dO deadB
 cases hd:dget de n with
 | none=>rfl
 | some v=>rfl
end
section
variable {ds:List Di}{arr:Dt Tx Int}{rks:List (Tp3 Tx Int Int)}{de:Des}
structure F6 (ds:List Di)(arr:Dt Tx Int)(rks:List (Tp3 Tx Int Int))(de:Des):Prop where
 f:F5 ds arr rks de
 nd:(de.map Prod.fst).Nodup
 al:arr.length<=40
theorem F6.len (f:F6 ds arr rks de):de.length<=40:=by
 have:=lA f.nd λ x hx=>by
  obtain⟨p,hp,rfl⟩:=List.mem_map.mp hx;exact(f.f.fd.dk p hp).1
 rw[List.length_map,List.length_map]at this;exact Nat.le_trans this f.al
theorem uB {κ α:Type}[DecidableEq κ]{d:Dt κ α}{k:κ}(h:dget d k=none)(v:α):dput d k v=d++[(k,v)]:=by
 unfold dput;rw[if_neg];intro z
 have:(dget d k).isSome=true:=by rw[mF];exact z
 rw[h]at this
 cases this
end
end Ty
namespace VS
open PySem PySem.Spec PyProof.Rows L2
inductive Un where
 | i (n:Int)
 | t (x:Tx)
 | l (xs:List Tx)
 | o
deriving DecidableEq
instance:Enc Un:=⟨λ x=>match x with
 | .i n=>Enc.enc n
 | .t x=>Enc.enc x
 | .l xs=>Enc.enc xs
 | .o=>.none⟩
def Un.toI:Un->Option Int
 | .i n=>some n
 | _=>none
def Un.toT:Un->Option Tx
 | .t x=>some x
 | _=>none
def Un.toL:Un->Option (List Tx)
 | .l x=>some x
 | _=>none
structure DeedT where
 ps:List Un
deriving DecidableEq
abbrev LDd:=List DeedT
instance:Enc DeedT:=⟨λ x=>.tuple (x.ps.map Enc.enc)⟩
structure FolkT where
 arr:Dt Tx Int
 rks:List (Tp3 Tx Int Int)
 des:Dt Tx (Int×Tx)
abbrev EvT:=Tp4 Int Tx (Option Tx) Tx
abbrev MoT:=Tp4 Int Tx Tx Int
abbrev SuT:=Tp4 (List (Tx×Int)) (List (Tx×Int)) Int (Option (Int×Tx))
structure MootT where
 apm:FolkT
 apn:List (Tx×Int)
 apo:List (Tp3 Int EvT (Option Int))
 apq:List (MoT×Option Int)
 apr:List SuT
 aps:List Int
 apt:Dt Tx Int
 apu:List DeedT
@[reducible] def aj7:FolkT:=⟨[],[],[]⟩
@[reducible] def nR:MootT:=⟨aj7,[],[],[],[],[],[],[]⟩
section
variable {ε ε' α β γ δ κ ω:Type}{A:LS}{t:T ε β}{F:β->ω}{B:β->LS}{X:ε->LS}
theorem Mt.take {A L:LS}(h:Mt A L)(n:Nat):Mt (A.take n) (L.take n):=by
 refine⟨by rw[List.length_take,List.length_take,h.1],λ i s e=>?_⟩;rw[List.getElem?_take]at e ⊢
 split at e
 ·rename_i hi
  rw[if_pos hi];exact h.2 i s e
 ·cases e
end
end VS
namespace Ty
open PySem PySem.Spec PyProof.Rows VS Lw L2
def mX (apv:Dt Tx Int)(apw:List (Tp3 Tx Int Int))(apx:Dt Tx (Int×Tx)):T Empty FolkT:=.ok ⟨apv,apw,apx⟩
end Ty
noncomputable section
namespace Ty
open PySem VS L2
section
variable (ns:List Tx)(ds:List Int)
abbrev Nx (i:Nat):Tx:=ns.getD i (tx "")
abbrev Dx1 (i:Nat):Int:=ds.getD i 0
def dL6 (k:Nat):Des:=(List.range k).map λ i=>(Nx ns i,(Dx1 ds i,Nx ns (i+1)))
end
section
variable {ns:List Tx}{ds:List Int}
def st0 (x:Tx):List Stp:=[Tp4.mk 2 (tx "brought") none x]
end
section
variable {pe:FolkT}{br:List Oath}{pa:List (Tp3 Int EvU (Option Int))}{mo:List (MoU×(Option Int))}{tr:List Suit}{td:List Int}{pn:Dt Tx Int}{to:List DeedT}
end
end Ty
namespace Ty
open PySem VS L2
abbrev ar6 (ns:List Tx):Dt Tx Int:=ns.map λ n=>(n,(1:Int))
section
variable {ns:List Tx}{ds:List Int}
end
structure M2 (ns:List Tx)(ds:List Int)(br:List Oath)(mo:List (MoT×Option Int))(k:Nat)(m:MootT):Prop where
 arr:m.apm.arr=ar6 ns
 des:m.apm.des=dL6 ns ds k
 f:∃ dl,F5 dl m.apm.arr m.apm.rks m.apm.des
 br:m.apn=br
 pa:m.apo=[]
 mo:m.apq=mo
 tr:m.apr=[]
 apu:m.apu.length=ns.length+3+k
section
variable {pe:FolkT}{br:List Oath}{mo:List (MoU×(Option Int))}{td:List Int}{pn:Dt Tx Int}{to:List DeedT}
end
end Ty
namespace VS
open PySem PySem.Spec PyProof.Rows L2
structure WorldT where
 apz:List DeedT
 apA:List SuT
 apr:List DeedT
def unS:Un->S
 | .i n=>.d (Enc.enc n)
 | .t x=>.d (Enc.enc x)
 | .l xs=>.ol (xs.map Enc.enc)
 | .o=>.d .none
def deedS (d:DeedT):S:=.ot (d.ps.map unS)
theorem aoD (u:Un):s1D (unS u)=some (Enc.enc u):=by cases u<;>rfl
theorem aeu:∀ us:List Un,s1Ds (us.map unS)=some (us.map Enc.enc)
 | []=>rfl
 | u::us=>by
  show((s1D (unS u)).bind λ d=>(s1Ds (us.map unS)).map (d::·))=_;rw[aoD,aeu us]
  rfl
theorem aoE (u:Un):akQ (unS u)=true:=by cases u<;>rfl
theorem amD (us:List Un):(us.map unS).all akQ=true:=by
 rw[List.all_eq_true];intro s hs;obtain⟨u,_,rfl⟩:=List.mem_map.mp hs;exact aoE u
theorem ag7 (d:DeedT)(k:Int):dIx (Enc.enc d) (Enc.enc k)=(atI d.ps k).map Enc.enc:=aaj _ _ _
theorem aev (b:Bool):scal (Enc.enc b)=true:=rfl
theorem aj8 (xs:List Tx):(xs.map Enc.enc).all scal=true:=aj6 xs
theorem ab2 {o p:Option S}(h:∀ s,o=some s->p=some s){s:S}(e:viewS o=some s):viewS p=some s:=by
 cases o with
 | none=>cases e
 | some x=>rw[h x rfl];exact e
theorem Mt.view {A L:LS}(h:Mt A L):Mt (viewL A) (viewL L):=by
 refine⟨by unfold viewL;rw[List.length_map,List.length_map];exact h.1,λ i s e=>?_⟩;unfold viewL at e ⊢;rw[List.getElem?_map]at e ⊢;obtain⟨o,h1,h2⟩:=Option.map_eq_some_iff.mp e
 have hlt:i < L.length:=by rw[h.1];exact(List.getElem?_eq_some_iff.mp h1).1
 rw[List.getElem?_eq_getElem hlt];refine congrArg some (ab2 (o:=o) (λ x hx=>?_) h2)
 subst hx
 have:=h.2 i x h1
 rw[List.getElem?_eq_getElem hlt]at this;exact Option.some.inj this
def T.nv {ε ε' α:Type}(t:T ε' α):T ε α:=match t with
 | .ok a=>.ok a
 | _=>.no
theorem T.nv_ok {ε ε' α:Type}(a:α):(T.nv (T.ok a:T ε' α):T ε α)=.ok a:=rfl
section
variable {ε ε' α β γ δ κ ω:Type}{A A2:LS}{t:T ε β}{F:β->ω}{B:β->LS}{X:ε->LS}
theorem amE {k:List Aq->LS->R ω}(h:SK A (k []) t F B X):SK A (λ L=>(cQ [] L).bind k) t F B X:=h
theorem amF {α:Type}{a:Aw}{mk:α->Aq}{g:LS->R α}{as:List Aw}{k:List Aq->LS->R ω}(hev:∀ L,cQ (a::as) L=(g L).bind λ d L1=>(cQ as L1).bind λ xs L2=>.ok (mk d::xs) L2)(h:SK A (λ L=>(g L).bind λ d L1=>(cQ as L1).bind λ xs L2=>k (mk d::xs) L2) t F B X):SK A (λ L=>(cQ (a::as) L).bind k) t F B X:=λ L hL=>by
 have h:=h L hL
 dsimp only at h
 show SimR ((cQ (a::as) L).bind k) t F B X;rw[hev,aQ]
 cases e:g L with
 | stuck=>rw[e]at h;exact h
 | err c L1=>rw[e]at h;exact h
 | ok d L1 =>
  rw[e]at h;show SimR (((cQ as L1).bind λ xs L2=>R.ok (mk d::xs) L2).bind k) t F B X;rw[aQ];exact h
theorem ao6 {g:LS->R S}{as:List Aw}{k:List Aq->LS->R ω}(h:SK A (λ L=>(g L).bind λ d L1=>(cQ as L1).bind λ xs L2=>k (.t d::xs) L2) t F B X):SK A (λ L=>(cQ (.t g::as) L).bind k) t F B X:=amF (mk:=.t) (λ _=>rfl) h
theorem amG {g:LS->R S}{k:D->LS->R ω}(h:SK A (λ L=>(g L).bind λ s L1=>(frD s L1).bind k) t F B X):SK A (λ L=>(gFzD g L).bind k) t F B X:=fO h
theorem abm {d:DeedT}{k:D->LS->R ω}(h:SK A (k (Enc.enc d)) t F B X):SK A (λ L=>(frD (deedS d) L).bind k) t F B X:=λ L hL=>by
 show SimR ((match s1Ds (d.ps.map unS) with
  | some ds=>R.ok (PyData.tuple ds) L
  | none=>.stuck).bind k) t F B X
 rw[aeu];exact h L hL
def losF (xs:List Aq):LS->R S:=λ L=>match osOf xs with
 | some ss=>if ss.length<=sizeLine then .ok (.os ss) L else .stuck
 | none=>.stuck
theorem aoF {as:List Aw}{k:S->LS->R ω}(h:SK A (λ L=>(cQ as L).bind λ xs L1=>(losF xs L1).bind k) t F B X):SK A (λ L=>(gLos as L).bind k) t F B X:=fO (k:=losF) h
theorem aoG {xs:List Aq}{ss:List S}{k:S->LS->R ω}(h1:osOf xs=some ss)(h2:ss.length<=sizeLine)(h:SK A (k (.os ss)) t F B X):SK A (λ L=>(losF xs L).bind k) t F B X:=λ L hL=>by
 show SimR ((match osOf xs with
  | some ss=>if ss.length<=sizeLine then R.ok (S.os ss) L else .stuck
  | none=>.stuck).bind k) t F B X
 rw[h1];show SimR ((if ss.length<=sizeLine then R.ok (S.os ss) L else .stuck).bind k) t F B X;rw[if_pos h2];exact h L hL
end
end VS
namespace Ty
open PySem PySem.Spec PyProof.Rows VS Lw L2
def vL (d:DeedT):T Empty DeedT:=T.gd (d.ps.length<=sizeLine) (.ok d)
structure Kt where
 zs:List String
def Kt.ts (k:Kt):List Tx:=k.zs.map tx
instance:Enc Kt:=⟨λ k=>.tuple (k.zs.map λ z=>.str (Str.ofString z))⟩
theorem aoH (k:Kt):(Enc.enc k:D)=.tuple (k.ts.map Enc.enc):=by
 show PyData.tuple (k.zs.map λ z=>PyData.str (Str.ofString z))=PyData.tuple ((k.zs.map tx).map Enc.enc);rw[List.map_map]
 congr 1
 exact List.map_congr_left λ z _=>by
  show _=PyData.str (tx z).s;rw[anh]
theorem aoI (x:Tx)(k:Kt):dInB (Enc.enc x) (Enc.enc k)=some (memT x k.ts):=by
 rw[aoH]
 have ho:flatD (Enc.enc x:D)=true/\(k.ts.map (Enc.enc:Tx->D)).all flatD=true:=⟨rfl,by
  rw[List.all_eq_true];intro d hd;obtain⟨y,_,rfl⟩:=List.mem_map.mp hd
  rfl⟩
 show(if flatD (Enc.enc x:D)=true/\(k.ts.map (Enc.enc:Tx->D)).all flatD=true then some ((k.ts.map (Enc.enc:Tx->D)).any λ z=>PyData.eqv z (Enc.enc x)) else none)=_;rw[if_pos ho,ad3]
 rfl
theorem abn (x:Tx)(k:Kt):dNotIn (Enc.enc x) (Enc.enc k)=some (.bool (!memT x k.ts)):=by
 unfold dNotIn;rw[aoI]
 rfl
section
variable {κ ω' β ε:Type}{A:LS}{B:β->LS}{X:ε->LS}{F:β->ω'}{t:T ε β}{ω:Type}
end
section
variable {α β γ δ ζ η θ ι:Type}[Enc α][Enc β][Enc γ][Enc δ][Enc ζ][Enc η][Enc θ][Enc ι]
structure Tp6 (α β γ δ ζ η:Type) where
 a:α
 b:β
 c:γ
 d:δ
 e:ζ
 f:η
structure Tp7 (α β γ δ ζ η θ:Type) where
 a:α
 b:β
 c:γ
 d:δ
 e:ζ
 f:η
 g:θ
structure Tp8 (α β γ δ ζ η θ ι:Type) where
 a:α
 b:β
 c:γ
 d:δ
 e:ζ
 f:η
 g:θ
 h:ι
instance:Enc (Tp6 α β γ δ ζ η):=⟨λ p=>.tuple [Enc.enc p.a,Enc.enc p.b,Enc.enc p.c,Enc.enc p.d,Enc.enc p.e,Enc.enc p.f]⟩
instance:Enc (Tp7 α β γ δ ζ η θ):=⟨λ p=>.tuple [Enc.enc p.a,Enc.enc p.b,Enc.enc p.c,Enc.enc p.d,Enc.enc p.e,Enc.enc p.f,Enc.enc p.g]⟩
instance:Enc (Tp8 α β γ δ ζ η θ ι):=⟨λ p=>.tuple [Enc.enc p.a,Enc.enc p.b,Enc.enc p.c,Enc.enc p.d,Enc.enc p.e,Enc.enc p.f,Enc.enc p.g,Enc.enc p.h]⟩
end
section
variable {A:LS}{ω β γ ε:Type}{B:β->LS}{X:ε->LS}{F:β->ω}
end
section
variable {α β:Type}[Enc α][Enc β]
end
end Ty
noncomputable section
namespace Ty
open PySem VS Lw L2
def dZ (apA:(List Suit)):T Empty ((List Bool)) :=
 (mG apA ([]:Marks)).bind λ(r1,_g1) =>
 .ok r1
def aG (apm:FolkT)(apn:(List Oath))(apo:PaL)(apq:MoL)(apr:(List Suit))(aps:(List Int))(apt:(Dt Tx Int))(apu:LDd):T Unit (Unit) :=
 if(decide ((400:Int)<=((List.length apu:Nat):Int)))=true then(.er 12 ()) else(.ok ())
def cG (self:MootT)(name:Tx)(day:Int)(weight:Int):T Unit (MootT) :=
 (T.up (((mX self.apm.arr self.apm.rks self.apm.des).bind λ r2 =>
 .ok r2):T Empty (FolkT))).bind λ people1 =>
 (gQ name day weight people1.arr people1.rks people1.des).bind λ(people4,people5) =>
 (aG self.apm self.apn self.apo self.apq self.apr self.aps self.apt self.apu).bind λ _ =>
 (T.up ((T.gd ((({ self with apm:={ people1 with arr:=people4,rks:=people5 } }:MootT).apu:LDd).length < sizeLine) <|
 .ok (({ self with apm:={ people1 with arr:=people4,rks:=people5 } }:MootT).apu++[(DeedT.mk [(Un.t (tx "come")),(Un.t name),(Un.i day),(Un.i weight)])])):T Empty (LDd))).bind λ told7 =>
 .ok { ({ self with apm:={ people1 with arr:=people4,rks:=people5 } }:MootT) with apu:=told7 }
def il (self:MootT)(name:Tx)(day:Int)(weight:Int):T Unit (MootT) :=
 (T.up (((mX self.apm.arr self.apm.rks self.apm.des).bind λ r2 =>
 .ok r2):T Empty (FolkT))).bind λ people1 =>
 (ji name day weight people1.arr people1.rks people1.des).bind λ people4 =>
 (aG self.apm self.apn self.apo self.apq self.apr self.aps self.apt self.apu).bind λ _ =>
 (T.up ((T.gd ((({ self with apm:={ people1 with rks:=people4 } }:MootT).apu:LDd).length < sizeLine) <|
 .ok (({ self with apm:={ people1 with rks:=people4 } }:MootT).apu++[(DeedT.mk [(Un.t (tx "rise")),(Un.t name),(Un.i day),(Un.i weight)])])):T Empty (LDd))).bind λ told6 =>
 .ok { ({ self with apm:={ people1 with rks:=people4 } }:MootT) with apu:=told6 }
def eQ (self:MootT)(name:Tx)(day:Int)(heir:Tx):T Unit (MootT) :=
 (T.up (((mX self.apm.arr self.apm.rks self.apm.des).bind λ r2 =>
 .ok r2):T Empty (FolkT))).bind λ people1 =>
 (jF name day heir people1.arr people1.rks people1.des).bind λ people4 =>
 (aG self.apm self.apn self.apo self.apq self.apr self.aps self.apt self.apu).bind λ _ =>
 (T.up ((T.gd ((({ self with apm:={ people1 with des:=people4 } }:MootT).apu:LDd).length < sizeLine) <|
 .ok (({ self with apm:={ people1 with des:=people4 } }:MootT).apu++[(DeedT.mk [(Un.t (tx "die")),(Un.t name),(Un.i day),(Un.t heir)])])):T Empty (LDd))).bind λ told6 =>
 .ok { ({ self with apm:={ people1 with des:=people4 } }:MootT) with apu:=told6 }
def gR (name:Tx)(apm:FolkT)(apn:(List Oath))(apo:PaL)(apq:MoL)(apr:(List Suit))(aps:(List Int))(apt:(Dt Tx Int))(apu:LDd):T Unit ((Dt Tx Int)×LDd) :=
 (aY name apm.arr apm.rks apm.des).bind λ _ =>
 (T.up (nQ name apm.arr apm.rks apm.des)).bind λ r2 =>
 if(Option.isSome r2)=true then(.er 10 ()) else((aG apm apn apo apq apr aps apt apu).bind λ _ =>
 T.gd (apt.length < sizeLine) <|
 T.gd (apu.length < sizeLine) <|
 .ok ((dput apt name ((List.length apr:Nat):Int)),(apu++[(DeedT.mk [(Un.t (tx "penance")),(Un.t name)])])))
def aJ (names:(List Tx))(apm:FolkT)(apn:(List Oath))(apo:PaL)(apq:MoL)(apr:(List Suit))(aps:(List Int))(apt:(Dt Tx Int))(apu:LDd):T Unit (Unit) :=
 (T.forM names (():Unit) (λ(i1:Tx) _=>(((aY i1 apm.arr apm.rks apm.des).bind λ _ =>
 .ok ()):T Unit (Unit)))).bind λ _ =>
 .ok ()
def aD (names:(List Tx))(starts:(List Int))(day:Int)(apm:FolkT)(apn:(List Oath))(apo:PaL)(apq:MoL)(apr:(List Suit))(aps:(List Int))(apt:(Dt Tx Int))(apu:LDd):T Unit (Unit) :=
 (T.forM names (():Unit) (λ(i1:Tx) _=>(((aH i1 day apm.arr apm.rks apm.des).bind λ _ =>
 .ok ()):T Unit (Unit)))).bind λ _ =>
 (T.forM starts (():Unit) (λ(i3:Int) _=>((if(decide (day < i3))=true then(.er 9 ()) else(.ok ())):T Unit (Unit)))).bind λ _ =>
 .ok ()
def aM (names:(List Tx))(day:Int)(apm:FolkT)(apn:(List Oath))(apo:PaL)(apq:MoL)(apr:(List Suit))(aps:(List Int))(apt:(Dt Tx Int))(apu:LDd):T Unit (Unit) :=
 (T.forM names (():Unit) (λ(i1:Tx) _=>(((dO i1 day apm.arr apm.rks apm.des).bind λ _ =>
 .ok ()):T Unit (Unit)))).bind λ _ =>
 .ok ()
def bQ (name:Tx)(day:Int)(apm:FolkT)(apn:(List Oath))(apo:PaL)(apq:MoL)(apr:(List Suit))(aps:(List Int))(apt:(Dt Tx Int))(apu:LDd):T Unit (Int×(List Oath)×LDd) :=
 (aC day ((0:Int)) ((9999:Int))).bind λ _ =>
 (aJ (([name]:List Tx):(List Tx)) apm apn apo apq apr aps apt apu).bind λ _ =>
 (aD (([name]:List Tx):(List Tx)) (([]:List Int):(List Int)) day apm apn apo apq apr aps apt apu).bind λ _ =>
 (aM (([name]:List Tx):(List Tx)) day apm apn apo apq apr aps apt apu).bind λ _ =>
 (aG apm apn apo apq apr aps apt apu).bind λ _ =>
 if(decide ((40:Int)<=((List.length apn:Nat):Int)))=true then(.er 12 ()) else(T.gd (apn.length < sizeLine) <|
 T.gd (apu.length < sizeLine) <|
 .ok ((((List.length (apn++[(name,day)]):Nat):Int) - (1:Int)),(apn++[(name,day)]),(apu++[(DeedT.mk [(Un.t (tx "bring")),(Un.t name),(Un.i day)])])))
def bW (apK:Int)(apm:FolkT)(apn:(List Oath))(apo:PaL)(apq:MoL)(apr:(List Suit))(aps:(List Int))(apt:(Dt Tx Int))(apu:LDd):T Unit (Unit) :=
 if((decide (apK < (0:Int)))||(decide (((List.length apn:Nat):Int)<=apK)))=true then(.er 6 ()) else(.ok ())
def jT (apK:Int)(apG:Tx)(apH:Tx)(day:Int)(apm:FolkT)(apn:(List Oath))(apo:PaL)(apq:MoL)(apr:(List Suit))(aps:(List Int))(apt:(Dt Tx Int))(apu:LDd):T Unit (PaL×LDd) :=
 (aC day ((0:Int)) ((9999:Int))).bind λ _ =>
 (aJ (([apG,apH]:List Tx):(List Tx)) apm apn apo apq apr aps apt apu).bind λ _ =>
 (bW apK apm apn apo apq apr aps apt apu).bind λ _ =>
 (T.ofO (atI apn apK)).bind λ x4 =>
 (aD (([apG,apH]:List Tx):(List Tx)) (([x4.2]:List Int):(List Int)) day apm apn apo apq apr aps apt apu).bind λ _ =>
 (aM (([apG,apH]:List Tx):(List Tx)) day apm apn apo apq apr aps apt apu).bind λ _ =>
 (aG apm apn apo apq apr aps apt apu).bind λ _ =>
 T.gd (apo.length < sizeLine) <|
 T.gd (apu.length < sizeLine) <|
 .ok ((apo++[(Tp3.mk apK (Tp4.mk day (tx "given") (some apG) apH) (none:(Option Int)))]),(apu++[(DeedT.mk [(Un.t (tx "give")),(Un.i apK),(Un.t apG),(Un.t apH),(Un.i day)])]))
def iV (apI:Tx)(apH:Tx)(many:Int)(day:Int)(apm:FolkT)(apn:(List Oath))(apo:PaL)(apq:MoL)(apr:(List Suit))(aps:(List Int))(apt:(Dt Tx Int))(apu:LDd):T Unit (MoL×LDd) :=
 (aC many ((1:Int)) ((1000000:Int))).bind λ _ =>
 (aC day ((0:Int)) ((9999:Int))).bind λ _ =>
 (aJ (([apI,apH]:List Tx):(List Tx)) apm apn apo apq apr aps apt apu).bind λ _ =>
 (aD (([apI,apH]:List Tx):(List Tx)) (([]:List Int):(List Int)) day apm apn apo apq apr aps apt apu).bind λ _ =>
 (aM (([apI,apH]:List Tx):(List Tx)) day apm apn apo apq apr aps apt apu).bind λ _ =>
 (aG apm apn apo apq apr aps apt apu).bind λ _ =>
 T.gd (apq.length < sizeLine) <|
 T.gd (apu.length < sizeLine) <|
 .ok ((apq++[((Tp4.mk day apH apI many),(none:(Option Int)))]),(apu++[(DeedT.mk [(Un.t (tx "pay")),(Un.t apI),(Un.t apH),(Un.i many),(Un.i day)])]))
def ju (apB:MootT)(deed:DeedT):T Unit ((Option Int)×MootT) :=
 (T.nv (((T.ofO (atI deed.ps (0:Int))).bind λ x2 =>
 (T.ofO (Un.toT x2)).bind λ u3 =>
 .ok u3):T Empty (Tx))).bind λ y1 =>
 if(decide (y1=(tx "come")))=true then((T.nv (((T.ofO (atI deed.ps (1:Int))).bind λ x5 =>
 (T.ofO (Un.toT x5)).bind λ u6 =>
 .ok u6):T Empty (Tx))).bind λ y4 =>
 (T.nv (((T.ofO (atI deed.ps (2:Int))).bind λ x8 =>
 (T.ofO (Un.toI x8)).bind λ u9 =>
 .ok u9):T Empty (Int))).bind λ y7 =>
 (T.nv (((T.ofO (atI deed.ps (3:Int))).bind λ x11 =>
 (T.ofO (Un.toI x11)).bind λ u12 =>
 .ok u12):T Empty (Int))).bind λ y10 =>
 (cG apB y4 y7 y10).bind λ moot14 =>
 .ok ((none:(Option Int)),moot14)) else(if(decide (y1=(tx "rise")))=true then((T.nv (((T.ofO (atI deed.ps (1:Int))).bind λ x16 =>
 (T.ofO (Un.toT x16)).bind λ u17 =>
 .ok u17):T Empty (Tx))).bind λ y15 =>
 (T.nv (((T.ofO (atI deed.ps (2:Int))).bind λ x19 =>
 (T.ofO (Un.toI x19)).bind λ u20 =>
 .ok u20):T Empty (Int))).bind λ y18 =>
 (T.nv (((T.ofO (atI deed.ps (3:Int))).bind λ x22 =>
 (T.ofO (Un.toI x22)).bind λ u23 =>
 .ok u23):T Empty (Int))).bind λ y21 =>
 (il apB y15 y18 y21).bind λ moot25 =>
 .ok ((none:(Option Int)),moot25)) else(if(decide (y1=(tx "die")))=true then((T.nv (((T.ofO (atI deed.ps (1:Int))).bind λ x27 =>
 (T.ofO (Un.toT x27)).bind λ u28 =>
 .ok u28):T Empty (Tx))).bind λ y26 =>
 (T.nv (((T.ofO (atI deed.ps (2:Int))).bind λ x30 =>
 (T.ofO (Un.toI x30)).bind λ u31 =>
 .ok u31):T Empty (Int))).bind λ y29 =>
 (T.nv (((T.ofO (atI deed.ps (3:Int))).bind λ x33 =>
 (T.ofO (Un.toT x33)).bind λ u34 =>
 .ok u34):T Empty (Tx))).bind λ y32 =>
 (eQ apB y26 y29 y32).bind λ moot36 =>
 .ok ((none:(Option Int)),moot36)) else(if(decide (y1=(tx "penance")))=true then((T.nv (((T.ofO (atI deed.ps (1:Int))).bind λ x38 =>
 (T.ofO (Un.toT x38)).bind λ u39 =>
 .ok u39):T Empty (Tx))).bind λ y37 =>
 (gR y37 apB.apm apB.apn apB.apo apB.apq apB.apr apB.aps apB.apt apB.apu).bind λ(moot41,moot42) =>
 .ok ((none:(Option Int)),{ apB with apt:=moot41,apu:=moot42 })) else(if(decide (y1=(tx "bring")))=true then((T.nv (((T.ofO (atI deed.ps (1:Int))).bind λ x44 =>
 (T.ofO (Un.toT x44)).bind λ u45 =>
 .ok u45):T Empty (Tx))).bind λ y43 =>
 (T.nv (((T.ofO (atI deed.ps (2:Int))).bind λ x47 =>
 (T.ofO (Un.toI x47)).bind λ u48 =>
 .ok u48):T Empty (Int))).bind λ y46 =>
 (bQ y43 y46 apB.apm apB.apn apB.apo apB.apq apB.apr apB.aps apB.apt apB.apu).bind λ(r49,moot50,moot51) =>
 .ok ((some r49),{ apB with apn:=moot50,apu:=moot51 })) else(if(decide (y1=(tx "give")))=true then((T.nv (((T.ofO (atI deed.ps (1:Int))).bind λ x53 =>
 (T.ofO (Un.toI x53)).bind λ u54 =>
 .ok u54):T Empty (Int))).bind λ y52 =>
 (T.nv (((T.ofO (atI deed.ps (2:Int))).bind λ x56 =>
 (T.ofO (Un.toT x56)).bind λ u57 =>
 .ok u57):T Empty (Tx))).bind λ y55 =>
 (T.nv (((T.ofO (atI deed.ps (3:Int))).bind λ x59 =>
 (T.ofO (Un.toT x59)).bind λ u60 =>
 .ok u60):T Empty (Tx))).bind λ y58 =>
 (T.nv (((T.ofO (atI deed.ps (4:Int))).bind λ x62 =>
 (T.ofO (Un.toI x62)).bind λ u63 =>
 .ok u63):T Empty (Int))).bind λ y61 =>
 (jT y52 y55 y58 y61 apB.apm apB.apn apB.apo apB.apq apB.apr apB.aps apB.apt apB.apu).bind λ(moot65,moot66) =>
 .ok ((none:(Option Int)),{ apB with apo:=moot65,apu:=moot66 })) else((T.nv (((T.ofO (atI deed.ps (1:Int))).bind λ x68 =>
 (T.ofO (Un.toT x68)).bind λ u69 =>
 .ok u69):T Empty (Tx))).bind λ y67 =>
 (T.nv (((T.ofO (atI deed.ps (2:Int))).bind λ x71 =>
 (T.ofO (Un.toT x71)).bind λ u72 =>
 .ok u72):T Empty (Tx))).bind λ y70 =>
 (T.nv (((T.ofO (atI deed.ps (3:Int))).bind λ x74 =>
 (T.ofO (Un.toI x74)).bind λ u75 =>
 .ok u75):T Empty (Int))).bind λ y73 =>
 (T.nv (((T.ofO (atI deed.ps (4:Int))).bind λ x77 =>
 (T.ofO (Un.toI x77)).bind λ u78 =>
 .ok u78):T Empty (Int))).bind λ y76 =>
 (iV y67 y70 y73 y76 apB.apm apB.apn apB.apo apB.apq apB.apr apB.aps apB.apt apB.apu).bind λ(moot80,moot81) =>
 .ok ((none:(Option Int)),{ apB with apq:=moot80,apu:=moot81 })))))))
def fQ (apm:FolkT)(apn:(List Oath))(apo:PaL)(apq:MoL)(apr:(List Suit))(aps:(List Int))(apt:(Dt Tx Int))(apu:LDd):T Empty ((List Tx)) :=
 (dZ apr).bind λ r1 =>
 (T.forM (enT 0 apr) (([]:List Tx):(List Tx)) (λ(i2:(Int×Suit)) names4=>(((T.ofO (atI r1 i2.1)).bind λ x5 =>
 if x5=true then(if(Option.isSome i2.2.d)=true then((T.ofO i2.2.d).bind λ u6 =>
 if(decide (((dget apt u6.2).getD (0:Int))<=i2.1))=true then(T.gd (names4.length < sizeLine) <|
 .ok (names4++[u6.2])) else(.ok names4)) else(.ok names4)) else(.ok names4)):T Empty ((List Tx))))).bind λ names4 =>
 .ok names4
def bF (apF:(List Tx))(apE:(List Tx))(apm:FolkT)(apn:(List Oath))(apo:PaL)(apq:MoL)(apr:(List Suit))(aps:(List Int))(apt:(Dt Tx Int))(apu:LDd):T Unit (Unit) :=
 (aG apm apn apo apq apr aps apt apu).bind λ _ =>
 if((decide ((60:Int)<=((List.length apr:Nat):Int)))||((decide ((12:Int) < ((List.length apF:Nat):Int)))||(decide ((12:Int) < ((List.length apE:Nat):Int)))))=true then(.er 12 ()) else((T.nv (((T.ofO (catT apF apE)).bind λ x3 =>
 (T.ofO (aaq x3)).bind λ x4 =>
 (T.ofO (catT apF apE)).bind λ x5 =>
 .ok (decide (x4 < ((List.length x5:Nat):Int)))):T Empty (Bool))).bind λ y2 =>
 if y2=true then(.er 13 ()) else((T.up (fQ apm apn apo apq apr aps apt apu)).bind λ r6 =>
 (T.nv (((T.ofO (catT apF apE)).bind λ x8 =>
 .ok x8):T Empty ((List Tx)))).bind λ y7 =>
 (T.forM y7 (():Unit) (λ(i9:Tx) _=>((if(memT i9 r6)=true then(.er 14 ()) else(.ok ())):T Unit (Unit)))).bind λ _ =>
 .ok ()))
def dC (day:Int)(need:Int)(apF:(List Tx))(apE:(List Tx))(named:(Option (Int×Tx)))(apm:FolkT)(apn:(List Oath))(apo:PaL)(apq:MoL)(apr:(List Suit))(aps:(List Int))(apt:(Dt Tx Int))(apu:LDd):T Unit (Suit) :=
 (T.lcs apF (λ(i1:Tx)=>(((bT i1 day apm.arr apm.rks apm.des).bind λ r3 =>
 .ok (some (i1,r3))):T Unit (Option Oath)))).bind λ l2 =>
 (T.lcs apE (λ(i4:Tx)=>(((bT i4 day apm.arr apm.rks apm.des).bind λ r6 =>
 .ok (some (i4,r6))):T Unit (Option Oath)))).bind λ l5 =>
 (T.up (wJ l2)).bind λ r7 =>
 if(decide (r7 < need))=true then(.er 15 ()) else(.ok (Tp4.mk l2 l5 need named))
def dR (suit:Suit)(day:Int)(deed:DeedT)(apm:FolkT)(apn:(List Oath))(apo:PaL)(apq:MoL)(apr:(List Suit))(aps:(List Int))(apt:(Dt Tx Int))(apu:LDd):T Empty (Int×(List Suit)×(List Int)×LDd) :=
 T.gd (apr.length < sizeLine) <|
 T.gd (aps.length < sizeLine) <|
 (vL deed).bind λ r1 =>
 T.gd (apu.length < sizeLine) <|
 .ok ((((List.length (apr++[suit]):Nat):Int) - (1:Int)),(apr++[suit]),(aps++[day]),(apu++[r1]))
def jw (apC:Tx)(apK:Int)(day:Int)(need:Int)(apF:(List Tx))(apE:(List Tx))(apm:FolkT)(apn:(List Oath))(apo:PaL)(apq:MoL)(apr:(List Suit))(aps:(List Int))(apt:(Dt Tx Int))(apu:LDd):T Unit (Int×PaL×(List Suit)×(List Int)×LDd) :=
 (T.nv (((T.ofO (catT (([apC]:List Tx):(List Tx)) apF)).bind λ x2 =>
 (T.ofO (catT x2 apE)).bind λ x3 =>
 .ok x3):T Empty ((List Tx)))).bind λ y1 =>
 (aC day ((0:Int)) ((9999:Int))).bind λ _ =>
 (aC need ((1:Int)) ((12000:Int))).bind λ _ =>
 (aJ y1 apm apn apo apq apr aps apt apu).bind λ _ =>
 (bW apK apm apn apo apq apr aps apt apu).bind λ _ =>
 (T.ofO (atI apn apK)).bind λ x8 =>
 (aD y1 (([x8.2]:List Int):(List Int)) day apm apn apo apq apr aps apt apu).bind λ _ =>
 (aM y1 day apm apn apo apq apr aps apt apu).bind λ _ =>
 (bF apF apE apm apn apo apq apr aps apt apu).bind λ _ =>
 (dC day need apF apE ((none:(Option (Int×Tx))):(Option (Int×Tx))) apm apn apo apq apr aps apt apu).bind λ r12 =>
 (T.up (dR r12 day ((DeedT.mk [(Un.t (tx "claim")),(Un.t apC),(Un.i apK),(Un.i day),(Un.i need),(Un.l apF),(Un.l apE)]):DeedT) apm apn apo apq apr aps apt apu)).bind λ(r13,trials14,trial_days15,told16) =>
 T.gd (apo.length < sizeLine) <|
 .ok (r13,(apo++[(Tp3.mk apK (Tp4.mk day (tx "won") (none:(Option Tx)) apC) (some r13))]),trials14,trial_days15,told16)
def gU (apC:Tx)(apD:Tx)(many:Int)(day:Int)(need:Int)(apF:(List Tx))(apE:(List Tx))(apm:FolkT)(apn:(List Oath))(apo:PaL)(apq:MoL)(apr:(List Suit))(aps:(List Int))(apt:(Dt Tx Int))(apu:LDd):T Unit (Int×MoL×(List Suit)×(List Int)×LDd) :=
 (T.nv (((T.ofO (catT (([apC,apD]:List Tx):(List Tx)) apF)).bind λ x2 =>
 (T.ofO (catT x2 apE)).bind λ x3 =>
 .ok x3):T Empty ((List Tx)))).bind λ y1 =>
 (aC many ((1:Int)) ((1000000:Int))).bind λ _ =>
 (aC day ((0:Int)) ((9999:Int))).bind λ _ =>
 (aC need ((1:Int)) ((12000:Int))).bind λ _ =>
 (aJ y1 apm apn apo apq apr aps apt apu).bind λ _ =>
 (aD y1 (([]:List Int):(List Int)) day apm apn apo apq apr aps apt apu).bind λ _ =>
 (aM y1 day apm apn apo apq apr aps apt apu).bind λ _ =>
 (bF apF apE apm apn apo apq apr aps apt apu).bind λ _ =>
 (dC day need apF apE ((none:(Option (Int×Tx))):(Option (Int×Tx))) apm apn apo apq apr aps apt apu).bind λ r11 =>
 (T.up (dR r11 day ((DeedT.mk [(Un.t (tx "wergild")),(Un.t apC),(Un.t apD),(Un.i many),(Un.i day),(Un.i need),(Un.l apF),(Un.l apE)]):DeedT) apm apn apo apq apr aps apt apu)).bind λ(r12,trials13,trial_days14,told15) =>
 T.gd (apq.length < sizeLine) <|
 .ok (r12,(apq++[((Tp4.mk day apD apC many),(some r12))]),trials13,trial_days14,told15)
def iW (case_:Int)(name:Tx)(day:Int)(need:Int)(apF:(List Tx))(apE:(List Tx))(apm:FolkT)(apn:(List Oath))(apo:PaL)(apq:MoL)(apr:(List Suit))(aps:(List Int))(apt:(Dt Tx Int))(apu:LDd):T Unit (Int×(List Suit)×(List Int)×LDd) :=
 (T.nv (((T.ofO (catT apF apE)).bind λ x2 =>
 .ok x2):T Empty ((List Tx)))).bind λ y1 =>
 (aC day ((0:Int)) ((9999:Int))).bind λ _ =>
 (aC need ((1:Int)) ((12000:Int))).bind λ _ =>
 (aJ y1 apm apn apo apq apr aps apt apu).bind λ _ =>
 (lG apr case_ name).bind λ _ =>
 (T.ofO (atI aps case_)).bind λ x7 =>
 (aD y1 (([x7]:List Int):(List Int)) day apm apn apo apq apr aps apt apu).bind λ _ =>
 (aM y1 day apm apn apo apq apr aps apt apu).bind λ _ =>
 (bF apF apE apm apn apo apq apr aps apt apu).bind λ _ =>
 (dC day need apF apE ((some (case_,name)):(Option (Int×Tx))) apm apn apo apq apr aps apt apu).bind λ r11 =>
 (T.up (oA apr)).bind λ r12 =>
 if(memT ((case_,name):(Int×Tx)) r12)=true then(.er 16 ()) else((T.up (dR r11 day ((DeedT.mk [(Un.t (tx "accuse")),(Un.i case_),(Un.t name),(Un.i day),(Un.i need),(Un.l apF),(Un.l apE)]):DeedT) apm apn apo apq apr aps apt apu)).bind λ(r13,trials14,trial_days15,told16) =>
 .ok (r13,trials14,trial_days15,told16))
def iD (apB:MootT)(deed:DeedT):T Unit ((Option Int)×MootT) :=
 (T.nv (((T.ofO (atI deed.ps (0:Int))).bind λ x2 =>
 (T.ofO (Un.toT x2)).bind λ u3 =>
 .ok u3):T Empty (Tx))).bind λ y1 =>
 if(!(memT y1 ((Kt.mk ["claim","wergild","accuse"])).ts))=true then((ju apB deed).bind λ(r4,moot5) =>
 .ok (r4,moot5)) else(if(decide (y1=(tx "claim")))=true then((T.nv (((T.ofO (atI deed.ps (1:Int))).bind λ x7 =>
 (T.ofO (Un.toT x7)).bind λ u8 =>
 .ok u8):T Empty (Tx))).bind λ y6 =>
 (T.nv (((T.ofO (atI deed.ps (2:Int))).bind λ x10 =>
 (T.ofO (Un.toI x10)).bind λ u11 =>
 .ok u11):T Empty (Int))).bind λ y9 =>
 (T.nv (((T.ofO (atI deed.ps (3:Int))).bind λ x13 =>
 (T.ofO (Un.toI x13)).bind λ u14 =>
 .ok u14):T Empty (Int))).bind λ y12 =>
 (T.nv (((T.ofO (atI deed.ps (4:Int))).bind λ x16 =>
 (T.ofO (Un.toI x16)).bind λ u17 =>
 .ok u17):T Empty (Int))).bind λ y15 =>
 (T.ofO (atI deed.ps (5:Int))).bind λ x18 =>
 (T.ofO (Un.toL x18)).bind λ u19 =>
 (T.ofO (atI deed.ps (6:Int))).bind λ x20 =>
 (T.ofO (Un.toL x20)).bind λ u21 =>
 (jw y6 y9 y12 y15 u19 u21 apB.apm apB.apn apB.apo apB.apq apB.apr apB.aps apB.apt apB.apu).bind λ(r22,moot23,moot24,moot25,moot26) =>
 .ok ((some r22),{ apB with apo:=moot23,apr:=moot24,aps:=moot25,apu:=moot26 })) else(if(decide (y1=(tx "wergild")))=true then((T.nv (((T.ofO (atI deed.ps (1:Int))).bind λ x28 =>
 (T.ofO (Un.toT x28)).bind λ u29 =>
 .ok u29):T Empty (Tx))).bind λ y27 =>
 (T.nv (((T.ofO (atI deed.ps (2:Int))).bind λ x31 =>
 (T.ofO (Un.toT x31)).bind λ u32 =>
 .ok u32):T Empty (Tx))).bind λ y30 =>
 (T.nv (((T.ofO (atI deed.ps (3:Int))).bind λ x34 =>
 (T.ofO (Un.toI x34)).bind λ u35 =>
 .ok u35):T Empty (Int))).bind λ y33 =>
 (T.nv (((T.ofO (atI deed.ps (4:Int))).bind λ x37 =>
 (T.ofO (Un.toI x37)).bind λ u38 =>
 .ok u38):T Empty (Int))).bind λ y36 =>
 (T.nv (((T.ofO (atI deed.ps (5:Int))).bind λ x40 =>
 (T.ofO (Un.toI x40)).bind λ u41 =>
 .ok u41):T Empty (Int))).bind λ y39 =>
 (T.ofO (atI deed.ps (6:Int))).bind λ x42 =>
 (T.ofO (Un.toL x42)).bind λ u43 =>
 (T.ofO (atI deed.ps (7:Int))).bind λ x44 =>
 (T.ofO (Un.toL x44)).bind λ u45 =>
 (gU y27 y30 y33 y36 y39 u43 u45 apB.apm apB.apn apB.apo apB.apq apB.apr apB.aps apB.apt apB.apu).bind λ(r46,moot47,moot48,moot49,moot50) =>
 .ok ((some r46),{ apB with apq:=moot47,apr:=moot48,aps:=moot49,apu:=moot50 })) else((T.nv (((T.ofO (atI deed.ps (1:Int))).bind λ x52 =>
 (T.ofO (Un.toI x52)).bind λ u53 =>
 .ok u53):T Empty (Int))).bind λ y51 =>
 (T.nv (((T.ofO (atI deed.ps (2:Int))).bind λ x55 =>
 (T.ofO (Un.toT x55)).bind λ u56 =>
 .ok u56):T Empty (Tx))).bind λ y54 =>
 (T.nv (((T.ofO (atI deed.ps (3:Int))).bind λ x58 =>
 (T.ofO (Un.toI x58)).bind λ u59 =>
 .ok u59):T Empty (Int))).bind λ y57 =>
 (T.nv (((T.ofO (atI deed.ps (4:Int))).bind λ x61 =>
 (T.ofO (Un.toI x61)).bind λ u62 =>
 .ok u62):T Empty (Int))).bind λ y60 =>
 (T.ofO (atI deed.ps (5:Int))).bind λ x63 =>
 (T.ofO (Un.toL x63)).bind λ u64 =>
 (T.ofO (atI deed.ps (6:Int))).bind λ x65 =>
 (T.ofO (Un.toL x65)).bind λ u66 =>
 (iW y51 y54 y57 y60 u64 u66 apB.apm apB.apn apB.apo apB.apq apB.apr apB.aps apB.apt apB.apu).bind λ(r67,moot68,moot69,moot70) =>
 .ok ((some r67),{ apB with apr:=moot68,aps:=moot69,apu:=moot70 }))))
end Ty
namespace Ty
open PySem VS L2
section
variable {α β:Type}
def Pe (t:T Unit α)(P:α->Prop):Prop:=match t with
 | .ok a=>P a
 | .er k _=>2<=k/\k<=16
 | .no=>False
theorem cU {a:α}{P:α->Prop}(h:P a):Pe (.ok a) P:=h
theorem kJ {k:Nat}{u:Unit}{P:α->Prop}(h:2<=k/\k<=16:=by decide):Pe (.er k u) P:=h
theorem aj {t:T Unit α}{k:α->T Unit β}{P:α->Prop}{Q:β->Prop}(h:Pe t P)(h2:∀ a,P a->Pe (k a) Q):Pe (t.bind k) Q:=by
 cases t with
 | ok a=>exact h2 a h
 | er c x=>exact h
 | no=>exact h.elim
theorem amH {t:T Unit α}{P Q:α->Prop}(h:Pe t P)(h2:∀ a,P a->Q a):Pe t Q:=by
 cases t with
 | ok a=>exact h2 a h
 | er c x=>exact h
 | no=>exact h.elim
theorem qw {p:Prop}[Decidable p]{t:T Unit α}{P:α->Prop}(hp:p)(h:Pe t P):Pe (T.gd p t) P:=by
 rw[T.gd_of hp];exact h
theorem qT {c:Bool}{t u:T Unit α}{P:α->Prop}(h1:c=true->Pe t P)(h2:c=false->Pe u P):Pe (if c=true then t else u) P:=by
 cases c with
 | true=>exact h1 rfl
 | false=>exact h2 rfl
theorem qU {f:α->Unit->T Unit Unit}{R:α->Prop}:∀ {xs:List α},(∀ x∈xs,Pe (f x ()) λ _=>R x)->Pe (T.forM xs () f) λ _=>∀ x∈xs,R x
 | [],_=>cU λ x hx=>nomatch hx
 | y::ys,h=>by
  refine aj (h y List.mem_cons_self) λ a ha=>?_
  cases a
  exact amH (qU λ x hx=>h x (List.mem_cons_of_mem _ hx)) λ _ hr x hx=>by
   rcases List.mem_cons.mp hx with rfl | hx
   ·exact ha
   ·exact hr x hx
end
inductive Wd where
 | come (n:Tx) (d w:Int)
 | rise (n:Tx) (d w:Int)
 | die (n:Tx) (d:Int) (h:Tx)
 | penance (n:Tx)
 | bring (n:Tx) (d:Int)
 | give (t:Int) (a b:Tx) (d:Int)
 | pay (a b:Tx) (c d:Int)
 | claim (a:Tx) (t d x:Int) (o p:List Tx)
 | wergild (a b:Tx) (c d x:Int) (o p:List Tx)
 | accuse (k:Int) (n:Tx) (d x:Int) (o p:List Tx)
def Wd.t:Wd->DeedT
 | .come n d w=>DeedT.mk [(Un.t (tx "come")),(Un.t n),(Un.i d),(Un.i w)]
 | .rise n d w=>DeedT.mk [(Un.t (tx "rise")),(Un.t n),(Un.i d),(Un.i w)]
 | .die n d h=>DeedT.mk [(Un.t (tx "die")),(Un.t n),(Un.i d),(Un.t h)]
 | .penance n=>DeedT.mk [(Un.t (tx "penance")),(Un.t n)]
 | .bring n d=>DeedT.mk [(Un.t (tx "bring")),(Un.t n),(Un.i d)]
 | .give t a b d=>DeedT.mk [(Un.t (tx "give")),(Un.i t),(Un.t a),(Un.t b),(Un.i d)]
 | .pay a b c d=>DeedT.mk [(Un.t (tx "pay")),(Un.t a),(Un.t b),(Un.i c),(Un.i d)]
 | .claim a t d x o p=>DeedT.mk [(Un.t (tx "claim")),(Un.t a),(Un.i t),(Un.i d),(Un.i x),(Un.l o),(Un.l p)]
 | .wergild a b c d x o p=>DeedT.mk [(Un.t (tx "wergild")),(Un.t a),(Un.t b),(Un.i c),(Un.i d),(Un.i x),(Un.l o),(Un.l p)]
 | .accuse k n d x o p=>DeedT.mk [(Un.t (tx "accuse")),(Un.i k),(Un.t n),(Un.i d),(Un.i x),(Un.l o),(Un.l p)]
structure Cs where
 day:Int
 need:Int
 apF:List Tx
 apE:List Tx
 named:Option (Int×Tx)
def Wd.come?:Wd->Option (Tx×Int)
 | .come n d _=>some (n,d)
 | _=>none
def Wd.rank?:Wd->Option (Tp3 Tx Int Int)
 | .come n d w=>some ⟨n,d,w⟩
 | .rise n d w=>some ⟨n,d,w⟩
 | _=>none
def Wd.bring?:Wd->Option (Tx×Int)
 | .bring n d=>some (n,d)
 | _=>none
def Wd.case?:Wd->Option Cs
 | .claim _ _ d x o p=>some ⟨d,x,o,p,none⟩
 | .wergild _ _ _ d x o p=>some ⟨d,x,o,p,none⟩
 | .accuse k n d x o p=>some ⟨d,x,o,p,some (k,n)⟩
 | _=>none
def Wd.Wf:Wd->Prop
 | .come n _ _=>n.cs.length<=100000
 | .claim _ _ _ _ o p=>o.length<=1000/\p.length<=1000
 | .wergild _ _ _ _ _ o p=>o.length<=1000/\p.length<=1000
 | .accuse _ _ _ _ o p=>o.length<=1000/\p.length<=1000
 | _=>True
theorem bY {α β:Type}(f:α->Option β)(xs:List α)(e:α):(xs++[e]).filterMap f=xs.filterMap f++(f e).toList:=by
 rw[List.filterMap_append]
 cases h:f e<;>simp[List.filterMap_cons,h]
def wgo (n:Tx)(d:Int)(x:Int×Int)(r:Tp3 Tx Int Int):Int×Int:=if((decide (r.a=n))&&((decide (x.1<=r.b))&&(decide (r.b<=d))))=true then(r.b,r.c) else x
def wgR (rks:List (Tp3 Tx Int Int))(n:Tx)(d:Int):Int:=(rks.foldl (wgo n d) (0,0)).2
def wgt (ds:List Wd)(n:Tx)(d:Int):Int:=wgR (ds.filterMap Wd.rank?) n d
def suitD (ds:List Wd)(c:Cs):Suit:=Tp4.mk (c.apF.map λ n=>(n,wgt ds n c.day)) (c.apE.map λ n=>(n,wgt ds n c.day)) c.need c.named
theorem amI {arr:Dt Tx Int}{rks:List (Tp3 Tx Int Int)}{de:Des}{n:Tx}{d v:Int}(hv:dget arr n=some v)(h1:0<=d/\d<=9999)(h2:v<=d):bT n d arr rks de=.ok (wgR rks n d):=by
 unfold bT;rw[aar,if_neg (by omega),T.ok_bind,wY,hv,if_neg (by simp),T.ok_bind,wZ hv,if_neg (by omega),T.ok_bind]
 rw[yJ (g:=λ r x=>wgo n d x r) (λ r _ x=>by
  unfold wgo;obtain⟨x1,x2⟩:=x;show(if((decide (r.a=n))&&((decide (x1<=r.b))&&(decide (r.b<=d))))=true then _ else _)=T.ok (if((decide (r.a=n))&&((decide (x1<=r.b))&&(decide (r.b<=d))))=true then _ else _)
  split<;>rfl)]
 rfl
theorem aj9 {n:Tx}{d:Int}{x:Int×Int}{r:Tp3 Tx Int Int}(h:1<=r.c/\r.c<=1000)(hx:1<=x.2/\x.2<=1000):1<=(wgo n d x r).2/\(wgo n d x r).2<=1000:=by
 unfold wgo
 split
 ·exact h
 ·exact hx
theorem aka {n:Tx}{v d:Int}:∀ {rks:List (Tp3 Tx Int Int)},(∀ r∈rks,0<=r.b/\1<=r.c/\r.c<=1000)->(∃ w,(Tp3.mk n v w)∈rks)->v<=d->1<=wgR rks n d/\wgR rks n d<=1000:=by
 intro rks h ⟨w,hw⟩ hv;unfold wgR
 have good:∀ (l:List (Tp3 Tx Int Int)),(∀ r∈l,0<=r.b/\1<=r.c/\r.c<=1000)->∀ x:Int×Int,(1<=x.2/\x.2<=1000)->1<=(l.foldl (wgo n d) x).2/\(l.foldl (wgo n d) x).2<=1000:=by
  intro l
  induction l with
  | nil=>exact λ _ x hx=>hx
  | cons r l ih =>
   intro hl x hx;rw[List.foldl_cons];exact ih (λ z hz=>hl z (List.mem_cons_of_mem _ hz)) _ (aj9 (hl r List.mem_cons_self).2 hx)
 induction rks with
 | nil=>cases hw
 | cons r l ih =>
  rw[List.foldl_cons]
  have hr:=h r List.mem_cons_self
  have hl:∀ z∈l,0<=z.b/\1<=z.c/\z.c<=1000:=λ z hz=>h z (List.mem_cons_of_mem _ hz)
  by_cases c:((decide (r.a=n))&&((decide ((0:Int)<=r.b))&&(decide (r.b<=d))))=true
  ·have e:wgo n d (0,0) r=(r.b,r.c):=if_pos c
   rw[e];exact good l hl _ hr.2
  ·have e:wgo n d (0,0) r=(0,0):=if_neg c
   rw[e];rcases List.mem_cons.mp hw with hw | hw
   ·subst hw
    exact absurd (by simp[hr.1,hv]) c
   ·exact ih hl hw
structure MInv (ds:List Wd)(m:MootT):Prop where
 apu:m.apu=ds.map Wd.t
 arr:m.apm.arr=ds.filterMap Wd.come?
 nd:(m.apm.arr.map Prod.fst).Nodup
 ag:∀ p∈m.apm.arr,GoodT p.1/\0<=p.2
 rks:m.apm.rks=ds.filterMap Wd.rank?
 rk0:∀ r∈m.apm.rks,0<=r.b/\1<=r.c/\r.c<=1000
 cr:∀ p∈m.apm.arr,∃ w,(Tp3.mk p.1 p.2 w:Tp3 Tx Int Int)∈m.apm.rks
 dl:m.apm.des.length<=ds.length
 pn:m.apt.length<=ds.length
 br:m.apn=ds.filterMap Wd.bring?
 pa:m.apo.length<=ds.length
 mo:m.apq.length<=ds.length
 tr:SOk m.apr
 tc:m.aps=(ds.filterMap Wd.case?).map Cs.day
 tl:m.apr.length=(ds.filterMap Wd.case?).length
 wt:∀ u∈m.apr,u.c<=sumW u.a
theorem ag8:MInv [] nR:=⟨rfl,rfl,List.nodup_nil,by simp,rfl,by simp,by simp,Nat.le_refl _,Nat.le_refl _,rfl,Nat.le_refl _,Nat.le_refl _,⟨by simp,by simp,by simp⟩,rfl,rfl,by simp⟩
def eff (ds:List Wd)(m:MootT):Wd->MootT
 | .come n d w=>{ m with apm:=⟨m.apm.arr++[(n,d)],m.apm.rks++[Tp3.mk n d w],m.apm.des⟩,apu:=m.apu++[Wd.t (.come n d w)] }
 | .rise n d w=>{ m with apm:=⟨m.apm.arr,m.apm.rks++[Tp3.mk n d w],m.apm.des⟩,apu:=m.apu++[Wd.t (.rise n d w)] }
 | .die n d h=>{ m with apm:=⟨m.apm.arr,m.apm.rks,m.apm.des++[(n,(d,h))]⟩,apu:=m.apu++[Wd.t (.die n d h)] }
 | .penance n=>{ m with apt:=dput m.apt n ((m.apr.length:Nat):Int),apu:=m.apu++[Wd.t (.penance n)] }
 | .bring n d=>{ m with apn:=m.apn++[(n,d)],apu:=m.apu++[Wd.t (.bring n d)] }
 | .give t a b d=>{ m with apo:=m.apo++[Tp3.mk t (Tp4.mk d (tx "given") (some a) b) none],apu:=m.apu++[Wd.t (.give t a b d)] }
 | .pay a b c d=>{ m with apq:=m.apq++[(Tp4.mk d b a c,none)],apu:=m.apu++[Wd.t (.pay a b c d)] }
 | .claim a t d x o p=>{ m with apo:=m.apo++[Tp3.mk t (Tp4.mk d (tx "won") none a) (some ((m.apr.length:Nat):Int))],apr:=m.apr++[suitD ds ⟨d,x,o,p,none⟩],aps:=m.aps++[d],apu:=m.apu++[Wd.t (.claim a t d x o p)] }
 | .wergild a b c d x o p=>{ m with apq:=m.apq++[(Tp4.mk d b a c,some ((m.apr.length:Nat):Int))],apr:=m.apr++[suitD ds ⟨d,x,o,p,none⟩],aps:=m.aps++[d],apu:=m.apu++[Wd.t (.wergild a b c d x o p)] }
 | .accuse k n d x o p=>{ m with apr:=m.apr++[suitD ds ⟨d,x,o,p,some (k,n)⟩],aps:=m.aps++[d],apu:=m.apu++[Wd.t (.accuse k n d x o p)] }
def resD (m:MootT):Wd->Option Int
 | .bring _ _=>some ((m.apn.length:Nat):Int)
 | .claim _ _ _ _ _ _=>some ((m.apr.length:Nat):Int)
 | .wergild _ _ _ _ _ _ _=>some ((m.apr.length:Nat):Int)
 | .accuse _ _ _ _ _ _=>some ((m.apr.length:Nat):Int)
 | _=>none
section
variable {arr:Dt Tx Int}{rks:List (Tp3 Tx Int Int)}{de:Des}
theorem fZ (a lo hi:Int):Pe (aC a lo hi) λ _=>lo<=a/\a<=hi:=by
 rw[aar]
 by_cases h:a < lo∨hi < a
 ·rw[if_pos h];exact kJ
 ·rw[if_neg h];exact cU ⟨by omega,by omega⟩
theorem qC (n:Tx):Pe (aY n arr rks de) λ _=>∃ v,dget arr n=some v:=by
 rw[wY]
 cases h:dget arr n with
 | none=>rw[if_pos (by simp)];exact kJ
 | some v=>rw[if_neg (by simp)];exact cU ⟨v,rfl⟩
theorem sO {n:Tx}{v:Int}(h:dget arr n=some v)(d:Int):Pe (aH n d arr rks de) λ _=>v<=d:=by
 rw[wZ h]
 by_cases c:d < v
 ·rw[if_pos c];exact kJ
 ·rw[if_neg c];exact cU (by omega)
theorem abo (n:Tx)(d:Int):Pe (dO n d arr rks de) λ _=>deadB de n d=false:=by
 rw[abl]
 cases h:deadB de n d with
 | true=>rw[if_pos (by simp)];exact kJ
 | false=>rw[if_neg (by simp)];exact cU rfl
theorem ag9 {x:Tx}(h:Lw.isN (x.cs.map (·.val))=true):GoodT x:=by
 unfold Lw.isN at h;rw[Bool.and_eq_true,List.all_eq_true,decide_eq_true_eq,List.length_map]at h;exact⟨λ c hc=>of_decide_eq_true (h.2 _ (List.mem_map_of_mem hc)),h.1⟩
theorem akb {d:Dt Tx Int}{n:Tx}(h:dget d n=none):n∉d.map Prod.fst:=λ z=>by
 obtain⟨v,e,_⟩:=nO z;rw[h]at e
 cases e
theorem akc {n:Tx}(hn:n.cs.length<=100000)(ha:arr.length<=1000)(hr:rks.length<=2000)(d w:Int):Pe (gQ n d w arr rks de) λ p=>p=(arr++[(n,d)],rks++[Tp3.mk n d w])/\GoodT n/\n∉arr.map Prod.fst/\(0<=d/\d<=9999)/\(1<=w/\w<=1000):=by
 unfold gQ;rw[lH hn,T.up_ok,T.ok_bind]
 cases h:Lw.isN (n.cs.map (·.val)) with
 | false=>rw[if_pos (by simp)];exact kJ
 | true =>
  rw[if_neg (by simp)];refine aj (fZ _ _ _) λ _ h1=>aj (fZ _ _ _) λ _ h2=>?_
  cases hg:dget arr n with
  | some v=>rw[if_pos (by simp)];exact kJ
  | none =>
   rw[if_neg (by simp)];refine qT (λ _=>kJ) λ _=>qw (szl _ (by omega)) (qw (szl _ (by omega)) (cU ⟨?_,ag9 h,akb hg,h1,h2⟩));rw[uB hg]
theorem aew (n:Tx)(hr:rks.length<=2000)(d w:Int):Pe (ji n d w arr rks de) λ p=>p=rks++[Tp3.mk n d w]/\(0<=d/\d<=9999)/\(1<=w/\w<=1000)/\(∃ v,dget arr n=some v/\v<=d)/\deadB de n d=false:=by
 unfold ji;refine aj (fZ _ _ _) λ _ h1=>aj (fZ _ _ _) λ _ h2=>aj (qC n) λ _ ⟨v,hv⟩=>aj (sO hv d) λ _ h3=>aj (abo n d) λ _ h4=>qw (szl _ (by omega)) (cU ⟨rfl,h1,h2,⟨v,hv,h3⟩,h4⟩)
theorem ahY (n h:Tx)(hd:de.length<=1000)(d:Int):Pe (jF n d h arr rks de) λ p=>p=de++[(n,(d,h))]/\(0<=d/\d<=9999)/\(∃ v,dget arr n=some v/\v<=d)/\(∃ v,dget arr h=some v/\v<=d)/\dget de n=none/\dget de h=none/\h≠n:=by
 unfold jF;refine aj (fZ _ _ _) λ _ h1=>aj (qC n) λ _ ⟨v,hv⟩=>aj (qC h) λ _ ⟨u,hu⟩=>aj (sO hv d) λ _ h3=>aj (sO hu d) λ _ h4=>?_
 cases e1:dget de n with
 | some z=>rw[if_pos (by simp)];exact kJ
 | none =>
  rw[if_neg (by simp)];refine qT (λ _=>kJ) λ c=>qw (szl _ (by omega)) (cU ⟨by rw[uB e1],h1,⟨v,hv,h3⟩,⟨u,hu,h4⟩,rfl,?_,?_⟩)
  ·simp only[Bool.or_eq_false_iff]at c
   cases e2:dget de h with
   | none=>rfl
   | some z=>rw[e2]at c;cases c.2
  ·simp only[Bool.or_eq_false_iff]at c
   exact of_decide_eq_false c.1
end
section
variable {pe:FolkT}{br:List Oath}{pa:List (Tp3 Int EvU (Option Int))}{mo:List (MoU×(Option Int))}{tr:List Suit}{td:List Int}{pn:Dt Tx Int}{to:List DeedT}
theorem kW:Pe (aG pe br pa mo tr td pn to) λ _=>to.length < 400:=by
 unfold aG;exact qT (λ _=>kJ) λ h=>cU (by have:=of_decide_eq_false h;omega)
theorem lJ (xs:List Tx):Pe (aJ xs pe br pa mo tr td pn to) λ _=>∀ x∈xs,∃ v,dget pe.arr x=some v:=by
 unfold aJ;exact aj (qU (R:=λ x=>∃ v,dget pe.arr x=some v) λ x _=>aj (qC x) λ _ h=>cU h) λ _ h=>cU h
theorem jJ {xs:List Tx}(hk:∀ x∈xs,∃ v,dget pe.arr x=some v)(ss:List Int)(d:Int):Pe (aD xs ss d pe br pa mo tr td pn to) λ _=>(∀ x∈xs,∃ v,dget pe.arr x=some v/\v<=d)/\∀ s∈ss,s<=d:=by
 unfold aD;refine aj (qU (R:=λ x=>∃ v,dget pe.arr x=some v/\v<=d) λ x hx=>?_) λ _ h1=>aj (qU (R:=λ s=>s<=d) λ s _=>?_) λ _ h2=>cU ⟨h1,h2⟩
 ·obtain⟨v,hv⟩:=hk x hx;exact aj (sO hv d) λ _ h=>cU ⟨v,hv,h⟩
 ·exact qT (λ _=>kJ) λ h=>cU (by have:=of_decide_eq_false h;omega)
theorem lK (xs:List Tx)(d:Int):Pe (aM xs d pe br pa mo tr td pn to) λ _=>∀ x∈xs,deadB pe.des x d=false:=by
 unfold aM;exact aj (qU (R:=λ x=>deadB pe.des x d=false) λ x _=>aj (abo x d) λ _ h=>cU h) λ _ h=>cU h
theorem abp (t:Int):Pe (bW t pe br pa mo tr td pn to) λ _=>0<=t/\t < br.length:=by
 unfold bW;refine qT (λ _=>kJ) λ h=>cU ?_
 simp only[Bool.or_eq_false_iff,decide_eq_false_iff_not]at h
 omega
theorem qD {us:List Suit}(hs:SOk us):(dZ us).Post λ apu=>Settles us no0 apu:=by
 unfold dZ;refine jP (pB hs [] (by simp)) ?_;rintro⟨apu,m⟩ ⟨h,_,_⟩;exact bD h
def fswn (us:List Suit)(pn:Dt Tx Int)(apu:List Bool):List Tx:=(enT 0 us).filterMap λ x=>if apu[x.1.toNat]?.getD false=true then(match x.2.d with
 | some k=>if(dget pn k.2).getD 0<=x.1 then some k.2 else none
 | none=>none) else none
theorem aex (hs:SOk tr){apu:List Bool}(ht:dZ tr=.ok apu)(hl:apu.length=tr.length):fQ pe br pa mo tr td pn to=.ok (fswn tr pn apu):=by
 have hlen:=hs.len
 unfold fQ;rw[ht,T.ok_bind]
 have key:∀ (l:List (Int×Suit)) (acc:List Tx),acc.length+l.length<=1000->(∀ x∈l,∃ j:Nat,x.1=(j:Int)/\j < apu.length)->(T.forM l acc (λ(i2:(Int×Suit)) names4=>(((T.ofO (atI apu i2.1)).bind λ x5 =>
 if x5=true then(if(Option.isSome i2.2.d)=true then((T.ofO i2.2.d).bind λ u6 =>
 if(decide (((dget pn u6.2).getD (0:Int))<=i2.1))=true then(T.gd (names4.length < sizeLine) <|
 .ok (names4++[u6.2])) else(.ok names4)) else(.ok names4)) else(.ok names4)):T Empty ((List Tx)))))=.ok (acc++l.filterMap λ x=>if apu[x.1.toNat]?.getD false=true then(match x.2.d with
 | some k=>if(dget pn k.2).getD 0<=x.1 then some k.2 else none
 | none=>none) else none):=by
  intro l
  induction l with
  | nil=>intro acc _ _;rw[List.filterMap_nil,List.append_nil];rfl
  | cons x l ih =>
   intro acc hal hx;rw[List.length_cons]at hal;obtain⟨j,hj,hjl⟩:=hx x List.mem_cons_self
   have hx2:∀ y∈l,∃ j:Nat,y.1=(j:Int)/\j < apu.length:=λ y hy=>hx y (List.mem_cons_of_mem _ hy)
   rw[jt,hj,jY,List.getElem?_eq_getElem hjl,aa,List.filterMap_cons,hj,Int.toNat_natCast,List.getElem?_eq_getElem hjl]
   have skip:∀ q:T Empty (List Tx),q=.ok acc->(q.bind λ v'=>T.forM l v' _)=.ok (acc++l.filterMap _):=λ q e=>by rw[e,T.ok_bind];exact ih acc (by omega) hx2
   dsimp only[Option.getD_some]
   cases hb:apu[j] with
   | false=>exact skip _ rfl
   | true =>
    simp only[↓reduceIte]
    cases hd:x.2.d with
    | none =>
     simp only[Option.isSome_none,Bool.false_eq_true,↓reduceIte]
     exact skip _ rfl
    | some k =>
     simp only[Option.isSome_some,↓reduceIte]
     rw[aa]
     by_cases hc:(dget pn k.2).getD 0<=(j:Int)
     ·rw[if_pos (decide_eq_true hc),if_pos hc,T.gd_of (szl _ (by omega)),T.ok_bind]
      dsimp only
      rw[ih _ (by rw[List.length_append,List.length_singleton];omega) hx2,List.append_assoc]
      rfl
     ·rw[if_neg (by rw[decide_eq_true_eq];exact hc),if_neg hc];exact skip _ rfl
 rw[key _ _ (by rw[wN];simp;omega) (λ x hx=>by
  obtain⟨j,h1,h2⟩:=aj5 hx
  exact⟨j,h1,by rw[hl];exact(List.getElem?_eq_some_iff.mp h2).1⟩),T.ok_bind]
 rfl
theorem xf (hs:SOk tr)(o p:List Tx):Pe (bF o p pe br pa mo tr td pn to) λ _=>to.length < 400/\tr.length < 60/\o.length<=12/\p.length<=12/\(o++p).Nodup/\∃ apu,dZ tr=.ok apu/\∀ x∈o++p,x∉fswn tr pn apu:=by
 unfold bF;refine aj kW λ _ h0=>qT (λ _=>kJ) λ h1=>?_
 simp only[Bool.or_eq_false_iff,decide_eq_false_iff_not]at h1
 have l1:o.length<=12:=by omega
 have l2:p.length<=12:=by omega
 have hc:catT o p=some (o++p):=cR (by omega)
 have hls:aaq (o++p)=some (ddN (o++p):Int):=if_pos (by rw[List.length_append];omega)
 rw[hc,aa,hls,aa,aa];show Pe (T.bind (T.ok _) _) _;rw[T.ok_bind];refine qT (λ _=>kJ) λ h2=>?_
 have h2:=of_decide_eq_false h2
 have hnd:(o++p).Nodup:=(wQ _).mp (by have:=ahX (o++p);omega)
 obtain⟨apu,e1,e2⟩:=qD hs;rw[aex hs e1 e2.len,T.up_ok,T.ok_bind,aa];show Pe (T.bind (T.ok _) _) _;rw[T.ok_bind];refine aj (qU (R:=λ x=>x∉fswn tr pn apu) λ x _=>?_) λ _ h3=>cU ⟨h0,by omega,l1,l2,hnd,apu,e1,h3⟩;refine qT (λ _=>kJ) λ h=>cU λ z=>?_;rw[(eE _ _).mpr z]at h
 cases h
theorem aha (hs:SOk tr)(k:Int)(n:Tx):Pe (lG tr k n) λ _=>∃ (j:Nat) (w:Suit),k=(j:Int)/\tr[j]?=some w/\n∈namesOf w:=by
 unfold lG
 by_cases hk:k < 0∨(tr.length:Int)<=k
 ·rw[yP hk];exact kJ
 ·obtain⟨j,rfl⟩:=Int.eq_ofNat_of_zero_le (show 0<=k by omega)
  have hj:j < tr.length:=by omega
  have hw:tr[j]?=some tr[j]:=List.getElem?_eq_getElem hj
  have hsz:=hs.sz (List.getElem_mem hj)
  rw[wX hw,T.ok_bind,cR (by omega),aa,abe (by rw[List.length_append];omega),T.ok_bind];refine qT (λ _=>kJ) λ h=>cU ⟨j,_,rfl,hw,?_⟩;rw[Bool.not_eq_false',eE,List.filter_eq_self.mpr λ _ _=>rfl]at h;exact h
end
section
variable {ds:List Wd}{m:MootT}
theorem MInv.len (h:MInv ds m):m.apm.arr.length<=ds.length/\m.apm.rks.length<=ds.length/\m.apn.length<=ds.length/\m.apr.length<=ds.length/\m.aps.length=m.apr.length/\m.apu.length=ds.length:=by
 refine⟨?_,?_,?_,?_,?_,?_⟩
 ·rw[h.arr];exact List.length_filterMap_le _ _
 ·rw[h.rks];exact List.length_filterMap_le _ _
 ·rw[h.br];exact List.length_filterMap_le _ _
 ·rw[h.tl];exact List.length_filterMap_le _ _
 ·rw[h.tc,h.tl,List.length_map]
 ·rw[h.apu,List.length_map]
theorem MInv.wgt_ok (h:MInv ds m){n:Tx}{v d:Int}(hv:dget m.apm.arr n=some v)(hvd:v<=d)(hd:d<=9999):bT n d m.apm.arr m.apm.rks m.apm.des=.ok (wgt ds n d)/\1<=wgt ds n d/\wgt ds n d<=1000/\GoodT n:=by
 have hm:=gM hv
 obtain⟨g1,g2⟩:=h.ag _ hm;obtain⟨w,hw⟩:=h.cr _ hm
 dsimp only at g1 g2 hw
 refine⟨?_,?_⟩
 ·rw[amI hv ⟨by omega,hd⟩ hvd,h.rks]
  rfl
 ·unfold wgt;rw[←h.rks]
  have:=aka (d:=d) h.rk0 ⟨w,hw⟩ hvd
  exact⟨this.1,this.2,g1⟩
theorem aas (h:MInv ds m){d x:Int}{o p:List Tx}{nm:Option (Int×Tx)}(hk:∀ y∈o++p,∃ v,dget m.apm.arr y=some v/\v<=d)(hd:d<=9999)(ho:o.length<=12)(hp:p.length<=12):Pe (dC d x o p nm m.apm m.apn m.apo m.apq m.apr m.aps m.apt m.apu) λ s=>s=suitD ds ⟨d,x,o,p,nm⟩/\x<=sumW (suitD ds ⟨d,x,o,p,nm⟩).a:=by
 unfold dC
 have one:∀ l:List Tx,(∀ y∈l,y∈o++p)->l.length<=12->(T.lcs l (λ(i1:Tx)=>(((bT i1 d m.apm.arr m.apm.rks m.apm.des).bind λ r3 =>
 .ok (some (i1,r3))):T Unit (Option Oath))):T Unit (List Oath))=.ok (l.map λ n=>(n,wgt ds n d)):=by
  intro l hl hl2
  rw[aef (g:=λ n=>some (n,wgt ds n d)) (by omega) (λ y hy=>by
   obtain⟨v,hv,hvd⟩:=hk y (hl y hy)
   rw[(h.wgt_ok hv hvd hd).1,T.ok_bind])]
  rw[show(λ n=>some (n,wgt ds n d))=some∘(λ n:Tx=>((n,wgt ds n d):Oath)) from rfl,List.filterMap_eq_map]
 rw[one o (λ y hy=>List.mem_append_left _ hy) ho,T.ok_bind,one p (λ y hy=>List.mem_append_right _ hy) hp,T.ok_bind,wL _ (by rw[List.length_map];omega),T.up_ok,T.ok_bind];exact qT (λ _=>kJ) λ hq=>cU ⟨rfl,by have:=of_decide_eq_false hq;exact Int.not_lt.mp this⟩
theorem MInv.plain (h:MInv ds m){e:Wd}(h1:e.come?=none)(h2:e.rank?=none)(h3:e.bring?=none)(h4:e.case?=none){de:Des}{pn:Dt Tx Int}{pa:List (Tp3 Int EvU (Option Int))}{mo:List (MoU×(Option Int))}
  (k1:de.length<=ds.length+1) (k2:pn.length<=ds.length+1) (k3:pa.length<=ds.length+1) (k4:mo.length<=ds.length+1):MInv (ds++[e]) ⟨⟨m.apm.arr,m.apm.rks,de⟩,m.apn,pa,mo,m.apr,m.aps,pn,m.apu++[e.t]⟩:=by
 have ll:(ds++[e]).length=ds.length+1:=by simp
 refine⟨?_,?_,h.nd,h.ag,?_,h.rk0,h.cr,by rw[ll];exact k1,by rw[ll];exact k2,?_,by rw[ll];exact k3,by rw[ll];exact k4,h.tr,?_,?_,h.wt⟩
 ·rw[List.map_append,←h.apu];rfl
 ·rw[bY,h1,←h.arr];simp
 ·rw[bY,h2,←h.rks];simp
 ·rw[bY,h3,←h.br];simp
 ·rw[bY,h4,List.map_append,←h.tc];simp
 ·rw[bY,h4,List.length_append,←h.tl];simp
theorem MInv.cased (h:MInv ds m){e:Wd}{c:Cs}(h1:e.come?=none)(h2:e.rank?=none)(h3:e.bring?=none)(h4:e.case?=some c){pa:List (Tp3 Int EvU (Option Int))}{mo:List (MoU×(Option Int))}
  (k3:pa.length<=ds.length+1) (k4:mo.length<=ds.length+1) (hk:∀ y∈c.apF++c.apE,∃ v,dget m.apm.arr y=some v/\v<=c.day) (hd:c.day<=9999) (ho:c.apF.length<=12) (hp:c.apE.length<=12) (hnd:(c.apF++c.apE).Nodup) (hx:1<=c.need/\c.need<=12000) (hnm:ajY m.apr c.named) (hl:m.apr.length < 60) (hwt:c.need<=sumW (suitD ds c).a) :
  MInv (ds++[e]) ⟨m.apm,m.apn,pa,mo,m.apr++[suitD ds c],m.aps++[c.day],m.apt,m.apu++[e.t]⟩:=by
 have ll:(ds++[e]).length=ds.length+1:=by simp
 have hs:=h.tr
 have ab:(suitD ds c).a++(suitD ds c).b=(c.apF++c.apE).map λ n=>(n,wgt ds n c.day):=by rw[List.map_append];rfl
 refine⟨?_,?_,h.nd,h.ag,?_,h.rk0,h.cr,by rw[ll];exact Nat.le_succ_of_le h.dl,by rw[ll];exact Nat.le_succ_of_le h.pn,?_,by rw[ll];exact k3,by rw[ll];exact k4,⟨?_,λ u hu=>?_,λ i u k hi hk2=>?_⟩,?_,?_,λ u hu=>?_⟩
 ·rw[List.map_append,←h.apu];rfl
 ·rw[bY,h1,←h.arr];simp
 ·rw[bY,h2,←h.rks];simp
 ·rw[bY,h3,←h.br];simp
 ·rw[List.length_append,List.length_singleton];omega
 ·rcases List.mem_append.mp hu with hu | hu
  ·exact hs.side u hu
  ·rw[List.mem_singleton]at hu
   subst hu
   refine⟨⟨?_,λ z hz=>?_⟩,?_,hx⟩
   ·rw[ab,List.map_map,show((λ x:Oath=>x.1)∘λ n:Tx=>((n,wgt ds n c.day):Oath))=id from rfl,List.map_id];exact hnd
   ·rw[ab]at hz;obtain⟨y,hy,rfl⟩:=List.mem_map.mp hz;obtain⟨v,hv,hvd⟩:=hk y hy;obtain⟨_,w1,w2,w3⟩:=h.wgt_ok hv hvd hd;exact⟨w1,w2,w3⟩
   ·rw[ab,List.length_map,List.length_append];omega
 ·by_cases hil:i < m.apr.length
  ·rw[List.getElem?_append_left hil]at hi;obtain⟨j,w,q1,q2,q3,q4⟩:=hs.named i u k hi hk2;exact⟨j,w,q1,q2,by rw[List.getElem?_append_left (by omega)];exact q3,q4⟩
  ·rw[List.getElem?_append_right (by omega)]at hi
   have hi0:i - m.apr.length=0:=by
    have:=(List.getElem?_eq_some_iff.mp hi).1
    simp at this
    omega
   rw[hi0]at hi
   have hu:suitD ds c=u:=Option.some.inj hi
   subst hu
   obtain⟨j,w,q1,q2,q3⟩:=hnm k hk2
   have hj:=(List.getElem?_eq_some_iff.mp q2).1
   exact⟨j,w,q1,by omega,by rw[List.getElem?_append_left hj];exact q2,q3⟩
 ·rw[bY,h4,List.map_append,←h.tc];rfl
 ·rw[bY,h4,List.length_append,List.length_append,←h.tl];rfl
 ·rcases List.mem_append.mp hu with hu | hu
  ·exact h.wt u hu
  ·rw[List.mem_singleton]at hu
   subst hu
   exact hwt
abbrev Dn (ds:List Wd)(m:MootT)(e:Wd)(r:Option Int×MootT):Prop:=r=(resD m e,eff ds m e)/\MInv (ds++[e]) (eff ds m e)
theorem akd (h:MInv ds m)(hl:ds.length<=900){n:Tx}(hn:n.cs.length<=100000)(d w:Int):Pe (cG m n d w) λ r=>r=eff ds m (.come n d w)/\MInv (ds++[.come n d w]) (eff ds m (.come n d w)):=by
 obtain⟨l1,l2,l3,l4,l5,l6⟩:=h.len;unfold cG mX;rw[T.ok_bind,T.up_ok,T.ok_bind];refine aj (akc hn (by dsimp only;omega) (by dsimp only;omega) d w) ?_;rintro _ ⟨rfl,g,hnn,hd,hw⟩;refine aj kW λ _ hr=>?_;rw[T.gd_of (szl _ (by dsimp only;omega)),T.up_ok,T.ok_bind];refine cU ⟨rfl,?_⟩
 have ll:(ds++[Wd.come n d w]).length=ds.length+1:=by simp
 refine⟨?_,?_,?_,?_,?_,?_,?_,by rw[ll];exact Nat.le_succ_of_le h.dl,by rw[ll];exact Nat.le_succ_of_le h.pn,?_,by rw[ll];exact Nat.le_succ_of_le h.pa,by rw[ll];exact Nat.le_succ_of_le h.mo,h.tr,?_,?_,h.wt⟩
 ·rw[List.map_append,←h.apu];rfl
 ·rw[bY,←h.arr];rfl
 ·show((m.apm.arr++[(n,d)]).map Prod.fst).Nodup;rw[List.map_append,List.nodup_append];refine⟨h.nd,by simp,λ a ha b hb z=>?_⟩
  simp at hb
  subst hb
  subst z
  exact hnn ha
 ·intro p hp;rcases List.mem_append.mp hp with hp | hp
  ·exact h.ag p hp
  ·rw[List.mem_singleton]at hp
   subst hp
   exact⟨g,hd.1⟩
 ·rw[bY,←h.rks];rfl
 ·intro r hr;rcases List.mem_append.mp hr with hr | hr
  ·exact h.rk0 r hr
  ·rw[List.mem_singleton]at hr
   subst hr
   exact⟨hd.1,hw.1,hw.2⟩
 ·intro p hp;rcases List.mem_append.mp hp with hp | hp
  ·obtain⟨w',hw'⟩:=h.cr p hp;exact⟨w',List.mem_append_left _ hw'⟩
  ·rw[List.mem_singleton]at hp
   subst hp
   exact⟨w,List.mem_append_right _ (List.mem_singleton.mpr rfl)⟩
 ·rw[bY,←h.br];show m.apn=m.apn++[];simp
 ·rw[bY,List.map_append,←h.tc];show m.aps=m.aps++[];simp
 ·rw[bY,List.length_append,←h.tl];rfl
theorem ake (h:MInv ds m)(hl:ds.length<=900)(n:Tx)(d w:Int):Pe (il m n d w) λ r=>r=eff ds m (.rise n d w)/\MInv (ds++[.rise n d w]) (eff ds m (.rise n d w)):=by
 obtain⟨l1,l2,l3,l4,l5,l6⟩:=h.len;unfold il mX;rw[T.ok_bind,T.up_ok,T.ok_bind];refine aj (aew n (by dsimp only;omega) d w) ?_;rintro _ ⟨rfl,hd,hw,_,_⟩;refine aj kW λ _ hr=>?_;rw[T.gd_of (szl _ (by dsimp only;omega)),T.up_ok,T.ok_bind];refine cU ⟨rfl,?_⟩
 have ll:(ds++[Wd.rise n d w]).length=ds.length+1:=by simp
 refine⟨?_,?_,h.nd,h.ag,?_,?_,?_,by rw[ll];exact Nat.le_succ_of_le h.dl,by rw[ll];exact Nat.le_succ_of_le h.pn,?_,by rw[ll];exact Nat.le_succ_of_le h.pa,by rw[ll];exact Nat.le_succ_of_le h.mo,h.tr,?_,?_,h.wt⟩
 ·rw[List.map_append,←h.apu];rfl
 ·rw[bY,←h.arr];show m.apm.arr=m.apm.arr++[];simp
 ·rw[bY,←h.rks];rfl
 ·intro r hr;rcases List.mem_append.mp hr with hr | hr
  ·exact h.rk0 r hr
  ·rw[List.mem_singleton]at hr
   subst hr
   exact⟨hd.1,hw.1,hw.2⟩
 ·intro p hp;obtain⟨w',hw'⟩:=h.cr p hp;exact⟨w',List.mem_append_left _ hw'⟩
 ·rw[bY,←h.br];show m.apn=m.apn++[];simp
 ·rw[bY,List.map_append,←h.tc];show m.aps=m.aps++[];simp
 ·rw[bY,List.length_append,←h.tl];rfl
theorem amJ (h:MInv ds m)(hl:ds.length<=900)(n:Tx)(d:Int)(x:Tx):Pe (eQ m n d x) λ r=>r=eff ds m (.die n d x)/\MInv (ds++[.die n d x]) (eff ds m (.die n d x)):=by
 obtain⟨l1,l2,l3,l4,l5,l6⟩:=h.len
 have:=h.dl
 unfold eQ mX;rw[T.ok_bind,T.up_ok,T.ok_bind];refine aj (ahY n x (by dsimp only;omega) d) ?_;rintro _ ⟨rfl,hd,_,_,_,_,_⟩;refine aj kW λ _ hr=>?_;rw[T.gd_of (szl _ (by dsimp only;omega)),T.up_ok,T.ok_bind];exact cU ⟨rfl,h.plain (e:=.die n d x) rfl rfl rfl rfl (by rw[List.length_append];simp;omega) (Nat.le_succ_of_le h.pn) (Nat.le_succ_of_le h.pa) (Nat.le_succ_of_le h.mo)⟩
end
section
variable {ds:List Wd}{m:MootT}
theorem ab4 (h:MInv ds m)(hl:ds.length<=900)(n:Tx):Pe (gR n m.apm m.apn m.apo m.apq m.apr m.aps m.apt m.apu) λ r=>r=(dput m.apt n ((m.apr.length:Nat):Int),m.apu++[Wd.t (.penance n)])/\MInv (ds++[.penance n]) (eff ds m (.penance n)):=by
 obtain⟨l1,l2,l3,l4,l5,l6⟩:=h.len
 have:=h.pn
 unfold gR nQ;refine aj (qC n) λ _ _=>?_;rw[T.up_ok,T.ok_bind];refine qT (λ _=>kJ) λ _=>aj kW λ _ hr=>qw (szl _ (by omega)) (qw (szl _ (by omega)) (cU ⟨rfl,?_⟩));exact h.plain (e:=.penance n) rfl rfl rfl rfl (Nat.le_succ_of_le h.dl) (by have:=abg m.apt n ((m.apr.length:Nat):Int);omega) (Nat.le_succ_of_le h.pa) (Nat.le_succ_of_le h.mo)
theorem ahb (h:MInv ds m)(hl:ds.length<=900)(n:Tx)(d:Int):Pe (bQ n d m.apm m.apn m.apo m.apq m.apr m.aps m.apt m.apu) λ r=>r=(((m.apn.length:Nat):Int),m.apn++[(n,d)],m.apu++[Wd.t (.bring n d)])/\MInv (ds++[.bring n d]) (eff ds m (.bring n d)):=by
 obtain⟨l1,l2,l3,l4,l5,l6⟩:=h.len;unfold bQ;refine aj (fZ _ _ _) λ _ h1=>aj (lJ _) λ _ h2=>aj (jJ h2 _ _) λ _ h3=>aj (lK _ _) λ _ h4=>aj kW λ _ h5=>qT (λ _=>kJ) λ h6=>qw (szl _ (by omega)) (qw (szl _ (by omega)) (cU ⟨?_,?_⟩))
 ·rw[List.length_append,List.length_singleton]
  congr 1
  omega
 ·have ll:(ds++[Wd.bring n d]).length=ds.length+1:=by simp
  refine⟨?_,?_,h.nd,h.ag,?_,h.rk0,h.cr,by rw[ll];exact Nat.le_succ_of_le h.dl,by rw[ll];exact Nat.le_succ_of_le h.pn,?_,by rw[ll];exact Nat.le_succ_of_le h.pa,by rw[ll];exact Nat.le_succ_of_le h.mo,h.tr,?_,?_,h.wt⟩
  ·rw[List.map_append,←h.apu];rfl
  ·rw[bY,←h.arr];show m.apm.arr=m.apm.arr++[];simp
  ·rw[bY,←h.rks];show m.apm.rks=m.apm.rks++[];simp
  ·rw[bY,←h.br];rfl
  ·rw[bY,List.map_append,←h.tc];show m.aps=m.aps++[];simp
  ·rw[bY,List.length_append,←h.tl];rfl
theorem akf (h:MInv ds m)(hl:ds.length<=900)(t:Int)(a b:Tx)(d:Int):Pe (jT t a b d m.apm m.apn m.apo m.apq m.apr m.aps m.apt m.apu) λ r=>r=(m.apo++[Tp3.mk t (Tp4.mk d (tx "given") (some a) b) none],m.apu++[Wd.t (.give t a b d)])/\MInv (ds++[.give t a b d]) (eff ds m (.give t a b d)):=by
 obtain⟨l1,l2,l3,l4,l5,l6⟩:=h.len
 have:=h.pa
 unfold jT;refine aj (fZ _ _ _) λ _ h1=>aj (lJ _) λ _ h2=>aj (abp _) λ _ h6=>?_;rw[rG h6.1 h6.2,aa];refine aj (jJ h2 _ _) λ _ h3=>aj (lK _ _) λ _ h4=>aj kW λ _ h5=>qw (szl _ (by omega)) (qw (szl _ (by omega)) (cU ⟨rfl,?_⟩));exact h.plain (e:=.give t a b d) rfl rfl rfl rfl (Nat.le_succ_of_le h.dl) (Nat.le_succ_of_le h.pn) (by rw[List.length_append];simp;omega) (Nat.le_succ_of_le h.mo)
theorem amK (h:MInv ds m)(hl:ds.length<=900)(a b:Tx)(c d:Int):Pe (iV a b c d m.apm m.apn m.apo m.apq m.apr m.aps m.apt m.apu) λ r=>r=(m.apq++[(Tp4.mk d b a c,none)],m.apu++[Wd.t (.pay a b c d)])/\MInv (ds++[.pay a b c d]) (eff ds m (.pay a b c d)):=by
 obtain⟨l1,l2,l3,l4,l5,l6⟩:=h.len
 have:=h.mo
 unfold iV;refine aj (fZ _ _ _) λ _ h0=>aj (fZ _ _ _) λ _ h1=>aj (lJ _) λ _ h2=>aj (jJ h2 _ _) λ _ h3=>aj (lK _ _) λ _ h4=>aj kW λ _ h5=>qw (szl _ (by omega)) (qw (szl _ (by omega)) (cU ⟨rfl,?_⟩));exact h.plain (e:=.pay a b c d) rfl rfl rfl rfl (Nat.le_succ_of_le h.dl) (Nat.le_succ_of_le h.pn) (Nat.le_succ_of_le h.pa) (by rw[List.length_append];simp;omega)
theorem keep_ok (h:MInv ds m)(hl:ds.length<=900)(s:Suit)(d:Int){z:DeedT}(hz:z.ps.length<=1000):dR s d z m.apm m.apn m.apo m.apq m.apr m.aps m.apt m.apu=.ok (((m.apr.length:Nat):Int),m.apr++[s],m.aps++[d],m.apu++[z]):=by
 obtain⟨l1,l2,l3,l4,l5,l6⟩:=h.len;unfold dR vL;rw[T.gd_of (szl _ (by omega)),T.gd_of (szl _ (by omega)),T.gd_of (Nat.le_of_lt (szl _ (by omega))),T.ok_bind,T.gd_of (szl _ (by omega)),List.length_append,List.length_singleton]
 congr 2
 omega
theorem xg {α:Type}{xs:List α}{P:α->Prop}(h:∀ y∈xs,P y){l:List α}(hl:∀ y∈l,y∈xs):∀ y∈l,P y:=λ y hy=>h y (hl y hy)
theorem ahc (h:MInv ds m)(hl:ds.length<=900)(a:Tx)(t d x:Int){o p:List Tx}(ho:o.length<=1000)(hp:p.length<=1000):Pe (jw a t d x o p m.apm m.apn m.apo m.apq m.apr m.aps m.apt m.apu) λ r=>r=(((m.apr.length:Nat):Int),m.apo++[Tp3.mk t (Tp4.mk d (tx "won") none a) (some ((m.apr.length:Nat):Int))],m.apr++[suitD ds ⟨d,x,o,p,none⟩],m.aps++[d],m.apu++[Wd.t (.claim a t d x o p)])/\MInv (ds++[.claim a t d x o p]) (eff ds m (.claim a t d x o p)):=by
 obtain⟨l1,l2,l3,l4,l5,l6⟩:=h.len
 have:=h.pa
 unfold jw;rw[cR (by simp;omega),aa,cR (by simp;omega),aa,T.nv_ok,T.ok_bind]
 have hsub:∀ y∈o++p,y∈([a]:List Tx)++o++p:=λ y hy=>by
  rw[List.append_assoc];exact List.mem_append_right _ hy
 refine aj (fZ _ _ _) λ _ h0=>aj (fZ _ _ _) λ _ h1=>aj (lJ _) λ _ h2=>aj (abp _) λ _ h6=>?_;rw[rG h6.1 h6.2,aa];refine aj (jJ h2 _ _) λ _ h3=>aj (lK _ _) λ _ h4=>aj (xf h.tr o p) λ _ ⟨s1,s2,s3,s4,s5,_⟩=>aj (aas h (xg h3.1 hsub) h0.2 s3 s4) ?_;rintro _ ⟨rfl,hwt⟩;rw[keep_ok h hl _ _ (by simp),T.up_ok,T.ok_bind];refine qw (szl _ (by omega)) (cU ⟨rfl,?_⟩);exact h.cased (e:=.claim a t d x o p) (c:=⟨d,x,o,p,none⟩) rfl rfl rfl rfl (by rw[List.length_append];simp;omega) (Nat.le_succ_of_le h.mo) (xg h3.1 hsub) h0.2 s3 s4 s5 h1 (λ k hk=>by cases hk) s2 hwt
theorem ab5 (h:MInv ds m)(hl:ds.length<=900)(a b:Tx)(c d x:Int){o p:List Tx}(ho:o.length<=1000)(hp:p.length<=1000):Pe (gU a b c d x o p m.apm m.apn m.apo m.apq m.apr m.aps m.apt m.apu) λ r=>r=(((m.apr.length:Nat):Int),m.apq++[(Tp4.mk d b a c,some ((m.apr.length:Nat):Int))],m.apr++[suitD ds ⟨d,x,o,p,none⟩],m.aps++[d],m.apu++[Wd.t (.wergild a b c d x o p)])/\MInv (ds++[.wergild a b c d x o p]) (eff ds m (.wergild a b c d x o p)):=by
 obtain⟨l1,l2,l3,l4,l5,l6⟩:=h.len
 have:=h.mo
 unfold gU;rw[cR (by simp;omega),aa,cR (by simp;omega),aa,T.nv_ok,T.ok_bind]
 have hsub:∀ y∈o++p,y∈([a,b]:List Tx)++o++p:=λ y hy=>by
  rw[List.append_assoc];exact List.mem_append_right _ hy
 refine aj (fZ _ _ _) λ _ hm=>aj (fZ _ _ _) λ _ h0=>aj (fZ _ _ _) λ _ h1=>aj (lJ _) λ _ h2=>?_;refine aj (jJ h2 _ _) λ _ h3=>aj (lK _ _) λ _ h4=>aj (xf h.tr o p) λ _ ⟨s1,s2,s3,s4,s5,_⟩=>aj (aas h (xg h3.1 hsub) h0.2 s3 s4) ?_;rintro _ ⟨rfl,hwt⟩;rw[keep_ok h hl _ _ (by simp),T.up_ok,T.ok_bind];refine qw (szl _ (by omega)) (cU ⟨rfl,?_⟩);exact h.cased (e:=.wergild a b c d x o p) (c:=⟨d,x,o,p,none⟩) rfl rfl rfl rfl (Nat.le_succ_of_le h.pa) (by rw[List.length_append];simp;omega) (xg h3.1 hsub) h0.2 s3 s4 s5 h1 (λ k hk=>by cases hk) s2 hwt
theorem aey {us:List Suit}(hs:SOk us):∃ l,oA us=.ok l:=by
 obtain⟨apu,_,ht⟩:=yM hs;obtain⟨ol,_,ho⟩:=oR hs;exact⟨_,yO hs ht ho⟩
theorem aez (h:MInv ds m)(hl:ds.length<=900)(k:Int)(n:Tx)(d x:Int){o p:List Tx}(ho:o.length<=1000)(hp:p.length<=1000):Pe (iW k n d x o p m.apm m.apn m.apo m.apq m.apr m.aps m.apt m.apu) λ r=>r=(((m.apr.length:Nat):Int),m.apr++[suitD ds ⟨d,x,o,p,some (k,n)⟩],m.aps++[d],m.apu++[Wd.t (.accuse k n d x o p)])/\MInv (ds++[.accuse k n d x o p]) (eff ds m (.accuse k n d x o p)):=by
 obtain⟨l1,l2,l3,l4,l5,l6⟩:=h.len;unfold iW;rw[cR (by omega),aa,T.nv_ok,T.ok_bind];refine aj (fZ _ _ _) λ _ h0=>aj (fZ _ _ _) λ _ h1=>aj (lJ _) λ _ h2=>aj (aha h.tr k n) λ _ hsw=>?_;obtain⟨j,w,rfl,hj,hw⟩:=hsw
 have hjl:=(List.getElem?_eq_some_iff.mp hj).1
 rw[jY,List.getElem?_eq_getElem (by omega),aa];refine aj (jJ h2 _ _) λ _ h3=>aj (lK _ _) λ _ h4=>aj (xf h.tr o p) λ _ ⟨s1,s2,s3,s4,s5,_⟩=>aj (aas h h3.1 h0.2 s3 s4) ?_;rintro _ ⟨rfl,hwt⟩;obtain⟨bl,hb⟩:=aey h.tr;rw[hb,T.up_ok,T.ok_bind];refine qT (λ _=>kJ) λ _=>?_;rw[keep_ok h hl _ _ (by simp),T.up_ok,T.ok_bind];refine cU ⟨rfl,?_⟩
 exact h.cased (e:=.accuse j n d x o p) (c:=⟨d,x,o,p,some (j,n)⟩) rfl rfl rfl rfl (Nat.le_succ_of_le h.pa) (Nat.le_succ_of_le h.mo) h3.1 h0.2 s3 s4 s5 h1 (λ k hk=>by
  cases hk
  exact⟨j,w,rfl,hj,hw⟩) s2 hwt
end
section
variable {α:Type}
theorem at0 (a:α)(l:List α):atI (a::l) (0:Int)=some a:=jY _ 0
theorem at1 (a b:α)(l:List α):atI (a::b::l) (1:Int)=some b:=jY _ 1
theorem at2 (a b c:α)(l:List α):atI (a::b::c::l) (2:Int)=some c:=jY _ 2
theorem at3 (a b c d:α)(l:List α):atI (a::b::c::d::l) (3:Int)=some d:=jY _ 3
theorem at4 (a b c d e:α)(l:List α):atI (a::b::c::d::e::l) (4:Int)=some e:=jY _ 4
theorem at5 (a b c d e f:α)(l:List α):atI (a::b::c::d::e::f::l) (5:Int)=some f:=jY _ 5
theorem at6 (a b c d e f g:α)(l:List α):atI (a::b::c::d::e::f::g::l) (6:Int)=some g:=jY _ 6
theorem at7 (a b c d e f g h:α)(l:List α):atI (a::b::c::d::e::f::g::h::l) (7:Int)=some h:=jY _ 7
theorem unT (x:Tx):Un.toT (Un.t x)=some x:=rfl
theorem unI (x:Int):Un.toI (Un.i x)=some x:=rfl
theorem unL (x:List Tx):Un.toL (Un.l x)=some x:=rfl
end
section
variable {ds:List Wd}{m:MootT}
theorem oU {α β:Type}{t:T Unit α}{f:α->β}{P:α->Prop}{Q:β->Prop}(h:Pe t P)(hq:∀ a,P a->Q (f a)):Pe (t.bind λ a=>.ok (f a)) Q:=aj h λ a ha=>cU (hq a ha)
theorem aeA (h:MInv ds m)(hl:ds.length<=900){e:Wd}(hw:e.Wf):Pe (iD m e.t) (Dn ds m e):=by
 unfold iD ju
 cases e with
 | come n d w =>
  unfold Wd.t
  simp only[at0,at1,at2,at3,unT,unI,aa,T.nv_ok,T.ok_bind]
  rw[if_pos (by decide),if_pos (by decide)];refine oU (P:=Dn ds m (.come n d w)) (oU (akd h hl hw d w) λ a ha=>⟨by rw[ha.1];rfl,ha.2⟩) λ a ha=>ha
 | rise n d w =>
  unfold Wd.t
  simp only[at0,at1,at2,at3,unT,unI,aa,T.nv_ok,T.ok_bind]
  rw[if_pos (by decide),if_neg (by decide),if_pos (by decide)];refine oU (P:=Dn ds m (.rise n d w)) (oU (ake h hl n d w) λ a ha=>⟨by rw[ha.1];rfl,ha.2⟩) λ a ha=>ha
 | die n d x =>
  unfold Wd.t
  simp only[at0,at1,at2,at3,unT,unI,aa,T.nv_ok,T.ok_bind]
  rw[if_pos (by decide),if_neg (by decide),if_neg (by decide),if_pos (by decide)];refine oU (P:=Dn ds m (.die n d x)) (oU (amJ h hl n d x) λ a ha=>⟨by rw[ha.1];rfl,ha.2⟩) λ a ha=>ha
 | penance n =>
  unfold Wd.t
  simp only[at0,at1,unT,unI,aa,T.nv_ok,T.ok_bind]
  rw[if_pos (by decide),if_neg (by decide),if_neg (by decide),if_neg (by decide),if_pos (by decide)];refine oU (P:=Dn ds m (.penance n)) (aj (ab4 h hl n) λ a ha=>?_) λ a ha=>ha;rw[ha.1];exact cU ⟨rfl,ha.2⟩
 | bring n d =>
  unfold Wd.t
  simp only[at0,at1,at2,unT,unI,aa,T.nv_ok,T.ok_bind]
  rw[if_pos (by decide),if_neg (by decide),if_neg (by decide),if_neg (by decide),if_neg (by decide),if_pos (by decide)];refine oU (P:=Dn ds m (.bring n d)) (aj (ahb h hl n d) λ a ha=>?_) λ a ha=>ha;rw[ha.1];exact cU ⟨rfl,ha.2⟩
 | give t a b d =>
  unfold Wd.t
  simp only[at0,at1,at2,at3,at4,unT,unI,aa,T.nv_ok,T.ok_bind]
  rw[if_pos (by decide),if_neg (by decide),if_neg (by decide),if_neg (by decide),if_neg (by decide),if_neg (by decide),if_pos (by decide)];refine oU (P:=Dn ds m (.give t a b d)) (aj (akf h hl t a b d) λ a ha=>?_) λ a ha=>ha;rw[ha.1];exact cU ⟨rfl,ha.2⟩
 | pay a b c d =>
  unfold Wd.t
  simp only[at0,at1,at2,at3,at4,unT,unI,aa,T.nv_ok,T.ok_bind]
  rw[if_pos (by decide),if_neg (by decide),if_neg (by decide),if_neg (by decide),if_neg (by decide),if_neg (by decide),if_neg (by decide)];refine oU (P:=Dn ds m (.pay a b c d)) (aj (amK h hl a b c d) λ a ha=>?_) λ a ha=>ha;rw[ha.1];exact cU ⟨rfl,ha.2⟩
 | claim a t d x o p =>
  unfold Wd.t
  simp only[at0,at1,at2,at3,at4,at5,at6,unT,unI,unL,aa,T.nv_ok,T.ok_bind]
  rw[if_neg (by decide),if_pos (by decide)];refine aj (ahc h hl a t d x hw.1 hw.2) λ a ha=>?_;rw[ha.1];exact cU ⟨rfl,ha.2⟩
 | wergild a b c d x o p =>
  unfold Wd.t
  simp only[at0,at1,at2,at3,at4,at5,at6,at7,unT,unI,unL,aa,T.nv_ok,T.ok_bind]
  rw[if_neg (by decide),if_neg (by decide),if_pos (by decide)];refine aj (ab5 h hl a b c d x hw.1 hw.2) λ a ha=>?_;rw[ha.1];exact cU ⟨rfl,ha.2⟩
 | accuse k n d x o p =>
  unfold Wd.t
  simp only[at0,at1,at2,at3,at4,at5,at6,at7,unT,unI,unL,aa,T.nv_ok,T.ok_bind]
  rw[if_neg (by decide),if_neg (by decide),if_neg (by decide)];refine aj (aez h hl k n d x hw.1 hw.2) λ a ha=>?_;rw[ha.1];exact cU ⟨rfl,ha.2⟩
theorem sS (e:Wd):e.t.ps.length<=8:=by cases e<;>simp[Wd.t]
end
end Ty
namespace Ty
open PySem VS L2 Lw
section
variable {ds:List Wd}{m:MootT}{w:WorldT}
end
end Ty
namespace Ty
open PySem VS L2
section
variable {ds:List Wd}{m:MootT}{w:WorldT}
end
end Ty
noncomputable section
namespace Ty
open PySem VS L2
def Wd.di?:Wd->Option Di
 | .come n d w=>some (Tp4.mk (tx "come") n d (Itx.i w))
 | .rise n d w=>some (Tp4.mk (tx "rise") n d (Itx.i w))
 | .die n d h=>some (Tp4.mk (tx "die") n d (Itx.t h))
 | _=>none
def Wd.die?:Wd->Option (Tx×(Int×Tx))
 | .die n d h=>some (n,(d,h))
 | _=>none
section
variable {ds:List Wd}{m:MootT}{ns:List Tx}
end
section
variable {ds:List Wd}{m:MootT}{ns:List Tx}
end
end Ty
namespace Ty
open PySem PySem.Spec PyProof.Rows VS Lw L2
section
variable {α:Type}[Enc α][DecidableEq α][i:Sc α]
end
theorem amL:∀ x y:Un,PyData.eqv (Enc.enc x) (Enc.enc y)=decide (x=y)
 | .i n,.i m=>(Sh.eqv n m).trans (decide_eq_decide.mpr ⟨λ h=>by rw[h],λ h=>by cases h;rfl⟩)
 | .t n,.t m=>(Sh.eqv n m).trans (decide_eq_decide.mpr ⟨λ h=>by rw[h],λ h=>by cases h;rfl⟩)
 | .l n,.l m=>(Sh.eqv n m).trans (decide_eq_decide.mpr ⟨λ h=>by rw[h],λ h=>by cases h;rfl⟩)
 | .o,.o=>by show PyData.eqv .none .none=_;unfold PyData.eqv;rfl
 | .i n,.t m=>by show PyData.eqv (.int n) (.str m.s)=_;simp[PyData.eqv]
 | .i n,.l m=>by show PyData.eqv (.int n) (.list (m.map Enc.enc))=_;simp[PyData.eqv]
 | .i n,.o=>by show PyData.eqv (.int n) .none=_;simp[PyData.eqv]
 | .t n,.i m=>by show PyData.eqv (.str n.s) (.int m)=_;simp[PyData.eqv]
 | .t n,.l m=>by show PyData.eqv (.str n.s) (.list (m.map Enc.enc))=_;simp[PyData.eqv]
 | .t n,.o=>by show PyData.eqv (.str n.s) .none=_;simp[PyData.eqv]
 | .l n,.i m=>by show PyData.eqv (.list (n.map Enc.enc)) (.int m)=_;simp[PyData.eqv]
 | .l n,.t m=>by show PyData.eqv (.list (n.map Enc.enc)) (.str m.s)=_;simp[PyData.eqv]
 | .l n,.o=>by show PyData.eqv (.list (n.map Enc.enc)) .none=_;simp[PyData.eqv]
 | .o,.i m=>by show PyData.eqv .none (.int m)=_;simp[PyData.eqv]
 | .o,.t m=>by show PyData.eqv .none (.str m.s)=_;simp[PyData.eqv]
 | .o,.l m=>by show PyData.eqv .none (.list (m.map Enc.enc))=_;simp[PyData.eqv]
theorem amM:∀ x:Un,(Enc.enc x:D).canLay0=true
 | .i n=>Sh.lay n
 | .t n=>Sh.lay n
 | .l n=>Sh.lay n
 | .o=>by show PyData.canLay0 .none=true;unfold PyData.canLay0;rfl
theorem aoJ:∀ x:Un,(Enc.enc x:D).depth<=1
 | .i n=>Nat.le_trans (Sh.dp n) (by decide)
 | .t n=>Nat.le_trans (Sh.dp n) (by decide)
 | .l n=>Nat.le_trans (Sh.dp n) (by decide)
 | .o=>by show PyData.depth .none<=1;unfold PyData.depth;exact Nat.zero_le _
instance:Sc Un:=⟨1,amM,aoJ,amL⟩
instance {α β:Type}[Enc α][DecidableEq α][i:Sc α][Enc β][DecidableEq β][j:Sc β]:Sc (α×β) where
 dep:=max i.dep j.dep+1
 lay:=λ p=>by
  show PyData.canLay0 (.tuple [Enc.enc p.1,Enc.enc p.2])=true
  simp[PyData.canLay0,PyData.canLayAll0,Sc.lay p.1,Sc.lay p.2]
 dp:=λ p=>by
  show PyData.depth (.tuple [Enc.enc p.1,Enc.enc p.2])<=_
  have h1:=i.dp p.1
  have h2:=j.dp p.2
  simp only[PyData.depth,PyData.depthAll]
  omega
 eqv:=λ p q=>by
  show PyData.eqv (.tuple [Enc.enc p.1,Enc.enc p.2]) (.tuple [Enc.enc q.1,Enc.enc q.2])=_
  simp only[PyData.eqv,PyData.eqvAll,Sc.eqv,Bool.and_true]
  have e:decide (p=q)=decide (p.1=q.1/\p.2=q.2):=decide_eq_decide.mpr Prod.ext_iff
  rw[e]
  by_cases h1:p.1=q.1<;>by_cases h2:p.2=q.2<;>simp[h1,h2]
section
variable {α:Type}[Enc α][DecidableEq α][i:Sc α]
end
end Ty
noncomputable section
namespace Ty
open PySem VS L2
def d8:List (Bool×Nat)->Option Nat
 | []=>none
 | (b,k)::l=>if b=true then some k else d8 l
def chk {α:Type}(l:List (Bool×Nat))(a:α):T Unit α:=match d8 l with
 | none=>.ok a
 | some k=>.er k ()
section
variable {α β:Type}
theorem aeC (a:α):chk [] a=.ok a:=rfl
theorem oF (b:Bool)(k:Nat)(l:List (Bool×Nat))(a:α):chk ((b,k)::l) a=if b=true then .er k () else chk l a:=by
 unfold chk
 show(match(if b=true then some k else d8 l) with
  | none=>T.ok a
  | some k=>.er k ())=_
 cases b<;>rfl
theorem jB {b:Bool}{k:Nat}{l:List (Bool×Nat)}{a:α}{t:T Unit α}(h:b=false->t=chk l a):(if b=true then .er k () else t)=chk ((b,k)::l) a:=by
 rw[oF]
 cases b with
 | true=>rfl
 | false=>exact h rfl
theorem au {b:Bool}{k:Nat}{l:List (Bool×Nat)}{a:α}{x:T Unit β}{u:β}{f:β->T Unit α}(h1:x=if b=true then .er k () else .ok u)(h2:b=false->f u=chk l a):x.bind f=chk ((b,k)::l) a:=by
 rw[oF,h1]
 cases b with
 | true=>rfl
 | false=>exact h2 rfl
theorem fH {l l':List (Bool×Nat)}{a:α}{x:T Unit β}{u:β}{f:β->T Unit α}(h1:x=chk l u)(h2:d8 l=none->f u=chk l' a):x.bind f=chk (l++l') a:=by
 subst h1
 induction l with
 | nil=>exact h2 rfl
 | cons p l ih =>
  obtain⟨b,k⟩:=p;rw[List.cons_append,oF,oF]
  cases b with
  | true=>rfl
  | false=>exact ih h2
theorem fU {l:List (Bool×Nat)}{a:α}{f:α->β}:((chk l a:T Unit α).bind λ a=>.ok (f a))=chk l (f a):=by
 unfold chk
 cases d8 l<;>rfl
theorem vN {l:List (Bool×Nat)}{a:α}(h:d8 l=none):chk l a=.ok a:=by
 unfold chk;rw[h]
theorem yQ {l:List (Bool×Nat)}:d8 l=none↔∀ p∈l,p.1=false:=by
 induction l with
 | nil=>simp[d8]
 | cons p l ih =>
  obtain⟨b,k⟩:=p;show(if b=true then some k else d8 l)=none↔_
  cases b with
  | true=>simp
  | false=>simp[ih]
theorem lL {b:Bool}{k:Nat}{l:List (Bool×Nat)}:d8 ((b,k)::l)=none↔b=false/\d8 l=none:=by
 show(if b=true then some k else d8 l)=none↔_
 cases b<;>simp
theorem mK {f:β->Unit->T Unit Unit}{g:β->Bool}{k:Nat}:∀ {xs:List β},(∀ x∈xs,f x ()=if g x=true then .er k () else .ok ())->T.forM xs () f=if xs.any g=true then .er k () else .ok ()
 | [],_=>rfl
 | x::xs,h=>by
  rw[jt,h x List.mem_cons_self,List.any_cons]
  cases g x with
  | true=>rfl
  | false=>exact mK λ y hy=>h y (List.mem_cons_of_mem _ hy)
end
def outB (a lo hi:Int):Bool:=decide (a < lo∨hi < a)
def unkB (m:MootT)(n:Tx):Bool:=(dget m.apm.arr n).isNone
def earB (m:MootT)(d:Int)(n:Tx):Bool:=match dget m.apm.arr n with
 | some v=>decide (d < v)
 | none=>false
def deaB (m:MootT)(d:Int)(n:Tx):Bool:=deadB m.apm.des n d
def gonB (m:MootT)(n:Tx):Bool:=(dget m.apm.des n).isSome
def romB (m:MootT):Bool:=decide (400<=(m.apu.length:Int))
def thiB (m:MootT)(t:Int):Bool:=decide (t < 0)||decide ((m.apn.length:Int)<=t)
def brdB (m:MootT)(t d:Int):Bool:=match atI m.apn t with
 | some p=>decide (d < p.2)
 | none=>false
def tdyB (m:MootT)(k d:Int):Bool:=match atI m.aps k with
 | some p=>decide (d < p)
 | none=>false
def okOf {α:Type}(a:α):T Empty α->α
 | .ok t=>t
 | _=>a
def toldOf (us:List Suit):List Bool:=okOf [] (dZ us)
def brkOf (us:List Suit):List (Int×Tx):=okOf [] (oA us)
def swB (m:MootT)(k:Int)(n:Tx):Bool:=match atI m.apr k with
 | some u=>!memT n (namesOf u)
 | none=>false
def capL (m:MootT)(o p:List Tx):List (Bool×Nat) :=
 [(romB m,12),((decide ((60:Int)<=(m.apr.length:Int))||(decide ((12:Int) < (o.length:Int))||decide ((12:Int) < (p.length:Int)))),12),
  (decide ((ddN (o++p):Int) < ((o++p).length:Int)),13),((o++p).any (λ x=>memT x (fswn m.apr m.apt (toldOf m.apr))),14)]
def dueL (ds:List Wd)(m:MootT):Wd->List (Bool×Nat)
 | .come n d w=>[(!Lw.isN (n.cs.map (·.val)),2),(outB d 0 9999,3),(outB w 1 1000,3),((dget m.apm.arr n).isSome,5),(decide ((40:Int)<=(m.apm.arr.length:Int)),12),(romB m,12)]
 | .rise n d w=>[(outB d 0 9999,3),(outB w 1 1000,3),(unkB m n,4),(earB m d n,9),(deaB m d n,10),(romB m,12)]
 | .die n d h=>[(outB d 0 9999,3),(unkB m n,4),(unkB m h,4),(earB m d n,9),(earB m d h,9),(gonB m n,10),(decide (h=n)||gonB m h,11),(romB m,12)]
 | .penance n=>[(unkB m n,4),(gonB m n,10),(romB m,12)]
 | .bring n d=>[(outB d 0 9999,3),(([n]:List Tx).any (unkB m),4),(([n]:List Tx).any (earB m d),9),(false,9),(([n]:List Tx).any (deaB m d),10),(romB m,12),(decide ((40:Int)<=(m.apn.length:Int)),12)]
 | .give t a b d=>[(outB d 0 9999,3),(([a,b]:List Tx).any (unkB m),4),(thiB m t,6),(([a,b]:List Tx).any (earB m d),9),(brdB m t d,9),(([a,b]:List Tx).any (deaB m d),10),(romB m,12)]
 | .pay a b c d=>[(outB c 1 1000000,3),(outB d 0 9999,3),(([a,b]:List Tx).any (unkB m),4),(([a,b]:List Tx).any (earB m d),9),(false,9),(([a,b]:List Tx).any (deaB m d),10),(romB m,12)]
 | .claim a t d x o p=>[(outB d 0 9999,3),(outB x 1 12000,3),(((a::o)++p).any (unkB m),4),(thiB m t,6),(((a::o)++p).any (earB m d),9),(brdB m t d,9),(((a::o)++p).any (deaB m d),10)]++(capL m o p++[(decide (sumW (suitD ds ⟨d,x,o,p,none⟩).a < x),15)])
 | .wergild a b c d x o p=>[(outB c 1 1000000,3),(outB d 0 9999,3),(outB x 1 12000,3),(((a::b::o)++p).any (unkB m),4),(((a::b::o)++p).any (earB m d),9),(false,9),(((a::b::o)++p).any (deaB m d),10)]++(capL m o p++[(decide (sumW (suitD ds ⟨d,x,o,p,none⟩).a < x),15)])
 | .accuse k n d x o p=>[(outB d 0 9999,3),(outB x 1 12000,3),((o++p).any (unkB m),4),(decide (k < 0∨(m.apr.length:Int)<=k),7),(swB m k n,8),((o++p).any (earB m d),9),(tdyB m k d,9),((o++p).any (deaB m d),10)]++(capL m o p++[(decide (sumW (suitD ds ⟨d,x,o,p,some (k,n)⟩).a < x),15),(memT (k,n) (brkOf m.apr),16)])
section
variable {ds:List Wd}{m:MootT}
theorem jf {us:List Suit}(hs:SOk us):dZ us=.ok (toldOf us)/\Settles us no0 (toldOf us):=by
 obtain⟨t,e,h⟩:=qD hs
 have:toldOf us=t:=(congrArg (okOf []) e).trans rfl
 rw[this];exact⟨e,h⟩
theorem qW {us:List Suit}(hs:SOk us):oA us=.ok (brkOf us)/\∀ k,k∈brkOf us↔brkB us (toldOf us) k=true:=by
 obtain⟨ol,_,ho⟩:=oR hs
 have e:=yO hs (jf hs).2 ho
 have:brkOf us=ol.filter λ k=>brkB us (toldOf us) k:=(congrArg (okOf []) e).trans rfl
 rw[this];refine⟨e,λ k=>?_⟩;rw[List.mem_filter,ho.mem];refine⟨λ h=>h.2,λ h=>⟨?_,h⟩⟩;obtain⟨j,u,a1,a2,a3⟩:=qQ.mp h;obtain⟨i,w,b1,b2,b3,b4⟩:=hs.named j u k a1 a3;exact amz.mpr ⟨i,w,b1,b3,b4⟩
theorem iY (a lo hi:Int):aC a lo hi=if outB a lo hi=true then .er 3 () else .ok ():=by
 rw[aar];unfold outB
 by_cases h:a < lo∨hi < a
 ·rw[if_pos h,if_pos (decide_eq_true h)]
 ·rw[if_neg h,if_neg (by rw[decide_eq_true_eq];exact h)]
theorem uC (n:Tx):aY n m.apm.arr m.apm.rks m.apm.des=if unkB m n=true then .er 4 () else .ok ():=wY n
theorem xj {n:Tx}(d:Int)(h:unkB m n=false):aH n d m.apm.arr m.apm.rks m.apm.des=if earB m d n=true then .er 9 () else .ok ():=by
 unfold unkB at h
 cases hv:dget m.apm.arr n with
 | none=>rw[hv]at h;cases h
 | some v =>
  rw[wZ hv];unfold earB;rw[hv]
  by_cases c:d < v
  ·rw[if_pos c,if_pos (decide_eq_true c)]
  ·rw[if_neg c,if_neg (by rw[decide_eq_true_eq];exact c)]
theorem aeE (n:Tx)(d:Int):dO n d m.apm.arr m.apm.rks m.apm.des=if deaB m d n=true then .er 10 () else .ok ():=abl n d
theorem oV:aG m.apm m.apn m.apo m.apq m.apr m.aps m.apt m.apu=if romB m=true then .er 12 () else .ok ():=rfl
theorem mO (xs:List Tx):aJ xs m.apm m.apn m.apo m.apq m.apr m.aps m.apt m.apu=if xs.any (unkB m)=true then .er 4 () else .ok ():=by
 unfold aJ;rw[mK (g:=unkB m) (k:=4) λ x _=>by rw[uC];cases unkB m x<;>rfl]
 cases xs.any (unkB m)<;>rfl
theorem mQ (xs:List Tx)(d:Int):aM xs d m.apm m.apn m.apo m.apq m.apr m.aps m.apt m.apu=if xs.any (deaB m d)=true then .er 10 () else .ok ():=by
 unfold aM;rw[mK (g:=deaB m d) (k:=10) λ x _=>by rw[aeE];cases deaB m d x<;>rfl]
 cases xs.any (deaB m d)<;>rfl
theorem jV {xs:List Tx}(ss:List Int)(d:Int)(h:xs.any (unkB m)=false):aD xs ss d m.apm m.apn m.apo m.apq m.apr m.aps m.apt m.apu=chk [(xs.any (earB m d),9),(ss.any (λ s=>decide (d < s)),9)] ():=by
 unfold aD;rw[List.any_eq_false]at h;refine au (mK (g:=earB m d) (k:=9) λ x hx=>?_) λ _=>au (mK (g:=λ s=>decide (d < s)) (k:=9) λ s _=>rfl) λ _=>rfl;rw[xj d (by have:=h x hx;simpa using this)]
 cases earB m d x<;>rfl
theorem aeF (t:Int):bW t m.apm m.apn m.apo m.apq m.apr m.aps m.apt m.apu=if thiB m t=true then .er 6 () else .ok ():=rfl
theorem abr {t:Int}(h:thiB m t=false):∃ p,atI m.apn t=some p:=by
 unfold thiB at h
 simp only[Bool.or_eq_false_iff,decide_eq_false_iff_not]at h
 exact⟨_,rG (by omega) (by omega)⟩
theorem akg (hs:SOk m.apr)(k:Int)(n:Tx):lG m.apr k n=chk [(decide (k < 0∨(m.apr.length:Int)<=k),7),(swB m k n,8)] ():=by
 unfold lG
 by_cases hk:k < 0∨(m.apr.length:Int)<=k
 ·rw[yP hk,oF,if_pos (decide_eq_true hk)]
  rfl
 ·obtain⟨j,rfl⟩:=Int.eq_ofNat_of_zero_le (show 0<=k by omega)
  have hj:j < m.apr.length:=by omega
  have hw:m.apr[j]?=some m.apr[j]:=List.getElem?_eq_getElem hj
  have hsz:=hs.sz (List.getElem_mem hj)
  rw[wX hw,T.ok_bind,cR (by omega),aa,abe (by rw[List.length_append];omega),T.ok_bind,List.filter_eq_self.mpr λ _ _=>rfl];refine Eq.trans ?_ (oF _ _ _ _).symm;rw[decide_eq_false hk];show _=chk [(swB m (j:Int) n,8)] ();unfold swB;rw[jY,hw];exact jB λ _=>rfl
theorem aat (hs:SOk m.apr){o p:List Tx}(ho:o.length<=1000)(hp:p.length<=1000):bF o p m.apm m.apn m.apo m.apq m.apr m.aps m.apt m.apu=chk (capL m o p) ():=by
 unfold bF capL;refine au oV λ _=>jB λ _=>?_
 have hc:catT o p=some (o++p):=cR (by omega)
 have hls:aaq (o++p)=some (ddN (o++p):Int):=if_pos (by rw[List.length_append];omega)
 rw[hc,aa,hls,aa,aa];show T.bind (T.ok _) _=_;rw[T.ok_bind];refine jB λ _=>?_;obtain⟨e1,e2⟩:=jf hs;rw[aex hs e1 e2.len,T.up_ok,T.ok_bind,aa];show T.bind (T.ok _) _=_;rw[T.ok_bind];exact au (mK λ x _=>rfl) λ _=>rfl
theorem vO {α:Type}{f:α->Bool}{xs ys:List α}(h:xs.any f=false)(hs:∀ y∈ys,y∈xs):∀ y∈ys,f y=false:=λ y hy=>by
 rw[List.any_eq_false]at h
 have:=h y (hs y hy)
 simpa using this
theorem aau {n:Tx}{d:Int}(h1:unkB m n=false)(h2:earB m d n=false):∃ v,dget m.apm.arr n=some v/\v<=d:=by
 unfold unkB at h1;unfold earB at h2
 cases hv:dget m.apm.arr n with
 | none=>rw[hv]at h1;cases h1
 | some v =>
  rw[hv]at h2
  have:=of_decide_eq_false h2
  exact⟨v,rfl,by omega⟩
theorem aeG (h:MInv ds m){d x:Int}{o p:List Tx}{nm:Option (Int×Tx)}(hk:∀ y∈o++p,∃ v,dget m.apm.arr y=some v/\v<=d)(hd:d<=9999)(ho:o.length<=12)(hp:p.length<=12):dC d x o p nm m.apm m.apn m.apo m.apq m.apr m.aps m.apt m.apu=chk [(decide (sumW (suitD ds ⟨d,x,o,p,nm⟩).a < x),15)] (suitD ds ⟨d,x,o,p,nm⟩):=by
 unfold dC
 have one:∀ l:List Tx,(∀ y∈l,y∈o++p)->l.length<=12->(T.lcs l (λ(i1:Tx)=>(((bT i1 d m.apm.arr m.apm.rks m.apm.des).bind λ r3 =>
 .ok (some (i1,r3))):T Unit (Option Oath))):T Unit (List Oath))=.ok (l.map λ n=>(n,wgt ds n d)):=by
  intro l hl hl2
  rw[aef (g:=λ n=>some (n,wgt ds n d)) (by omega) (λ y hy=>by
   obtain⟨v,hv,hvd⟩:=hk y (hl y hy)
   rw[(h.wgt_ok hv hvd hd).1,T.ok_bind])]
  rw[show(λ n=>some (n,wgt ds n d))=some∘(λ n:Tx=>((n,wgt ds n d):Oath)) from rfl,List.filterMap_eq_map]
 rw[one o (λ y hy=>List.mem_append_left _ hy) ho,T.ok_bind,one p (λ y hy=>List.mem_append_right _ hy) hp,T.ok_bind,wL _ (by rw[List.length_map];omega),T.up_ok,T.ok_bind];exact jB λ _=>rfl
theorem aav {o p:List Tx}(h:d8 (capL m o p)=none):m.apu.length < 400/\m.apr.length < 60/\o.length<=12/\p.length<=12:=by
 unfold capL at h;rw[lL,lL]at h;obtain⟨h1,h2,_⟩:=h;unfold romB at h1
 simp only[Bool.or_eq_false_iff,decide_eq_false_iff_not]at h1 h2
 omega
theorem abt {a lo hi:Int}(h:outB a lo hi=false):lo<=a/\a<=hi:=by
 unfold outB at h
 have:=of_decide_eq_false h
 omega
theorem abu (h:MInv ds m)(hl:ds.length<=900){e:Wd}(hw:e.Wf):iD m e.t=chk (dueL ds m e) (resD m e,eff ds m e):=by
 obtain⟨l1,l2,l3,l4,l5,l6⟩:=h.len
 have h7:=h.dl
 have h8:=h.pn
 have h9:=h.pa
 have h10:=h.mo
 have brd:∀ {t d:Int} {q:Oath},atI m.apn t=some q->([q.2].any λ s=>decide (d < s))=brdB m t d:=λ {t d q} hq=>by
  unfold brdB;rw[hq]
  simp
 unfold iD ju
 cases e with
 | come n d w =>
  unfold Wd.t
  simp only[at0,at1,at2,at3,unT,unI,aa,T.nv_ok,T.ok_bind]
  rw[if_pos (by decide),if_pos (by decide)]
  have key:cG m n d w=chk (dueL ds m (.come n d w)) (eff ds m (.come n d w)):=by
   unfold cG mX gQ dueL;rw[T.ok_bind,T.up_ok,T.ok_bind]
   try dsimp only
   rw[lH hw,T.up_ok,T.ok_bind];refine fH (l:=[_,_,_,_,_]) (u:=(m.apm.arr++[(n,d)],m.apm.rks++[Tp3.mk n d w])) (jB λ _=>au (iY _ _ _) λ _=>au (iY _ _ _) λ _=>jB λ hg=>jB λ _=>?_) λ _=>?_
   ·rw[T.gd_of (szl _ (by omega)),T.gd_of (szl _ (by omega)),uB (by
     cases hq:dget m.apm.arr n with
     | none=>rfl
     | some v=>rw[hq]at hg;cases hg)]
    rfl
   ·refine au oV λ _=>?_;rw[T.gd_of (szl _ (by first | omega | (dsimp only;omega))),T.up_ok,T.ok_bind]
    rfl
  rw[key,fU,fU]
  rfl
 | rise n d w =>
  unfold Wd.t
  simp only[at0,at1,at2,at3,unT,unI,aa,T.nv_ok,T.ok_bind]
  rw[if_pos (by decide),if_neg (by decide),if_pos (by decide)]
  have key:il m n d w=chk (dueL ds m (.rise n d w)) (eff ds m (.rise n d w)):=by
   unfold il mX ji dueL;rw[T.ok_bind,T.up_ok,T.ok_bind]
   try dsimp only
   refine fH (l:=[_,_,_,_,_]) (u:=m.apm.rks++[Tp3.mk n d w]) (au (iY _ _ _) λ _=>au (iY _ _ _) λ _=>au (uC n) λ hu=>au (xj d hu) λ _=>au (aeE n d) λ _=>?_) λ _=>?_
   ·rw[T.gd_of (szl _ (by omega))]
    rfl
   ·refine au oV λ _=>?_;rw[T.gd_of (szl _ (by first | omega | (dsimp only;omega))),T.up_ok,T.ok_bind]
    rfl
  rw[key,fU,fU]
  rfl
 | die n d x =>
  unfold Wd.t
  simp only[at0,at1,at2,at3,unT,unI,aa,T.nv_ok,T.ok_bind]
  rw[if_pos (by decide),if_neg (by decide),if_neg (by decide),if_pos (by decide)]
  have key:eQ m n d x=chk (dueL ds m (.die n d x)) (eff ds m (.die n d x)):=by
   unfold eQ mX jF dueL;rw[T.ok_bind,T.up_ok,T.ok_bind]
   try dsimp only
   refine fH (l:=[_,_,_,_,_,_,_]) (u:=m.apm.des++[(n,(d,x))]) (au (iY _ _ _) λ _=>au (uC n) λ hu=>au (uC x) λ hx=>au (xj d hu) λ _=>au (xj d hx) λ _=>jB λ hg=>jB λ _=>?_) λ _=>?_
   ·rw[T.gd_of (szl _ (by omega)),uB (by
     cases hq:dget m.apm.des n with
     | none=>rfl
     | some v=>rw[hq]at hg;cases hg)]
    rfl
   ·refine au oV λ _=>?_;rw[T.gd_of (szl _ (by first | omega | (dsimp only;omega))),T.up_ok,T.ok_bind]
    rfl
  rw[key,fU,fU]
  rfl
 | penance n =>
  unfold Wd.t
  simp only[at0,at1,unT,unI,aa,T.nv_ok,T.ok_bind]
  rw[if_pos (by decide),if_neg (by decide),if_neg (by decide),if_neg (by decide),if_pos (by decide)]
  have key:gR n m.apm m.apn m.apo m.apq m.apr m.aps m.apt m.apu=chk (dueL ds m (.penance n)) (dput m.apt n ((m.apr.length:Nat):Int),m.apu++[Wd.t (.penance n)]):=by
   unfold gR nQ dueL;refine au (uC n) λ _=>?_;rw[T.up_ok,T.ok_bind];refine jB λ _=>au oV λ _=>?_;rw[T.gd_of (szl _ (by omega)),T.gd_of (szl _ (by omega))]
   rfl
  rw[key]
  try dsimp only
  rw[fU,fU]
  rfl
 | bring n d =>
  unfold Wd.t
  simp only[at0,at1,at2,unT,unI,aa,T.nv_ok,T.ok_bind]
  rw[if_pos (by decide),if_neg (by decide),if_neg (by decide),if_neg (by decide),if_neg (by decide),if_pos (by decide)]
  have key:bQ n d m.apm m.apn m.apo m.apq m.apr m.aps m.apt m.apu=chk (dueL ds m (.bring n d)) (((m.apn.length:Nat):Int),m.apn++[(n,d)],m.apu++[Wd.t (.bring n d)]):=by
   unfold bQ dueL;refine au (iY _ _ _) λ _=>au (mO _) λ hu=>fH (l:=[_,_]) (jV _ _ hu) λ _=>au (mQ _ _) λ _=>au oV λ _=>jB λ _=>?_;rw[T.gd_of (szl _ (by omega)),T.gd_of (szl _ (by omega)),List.length_append,List.length_singleton,aeC]
   congr 2
   omega
  rw[key]
  try dsimp only
  rw[fU,fU]
  rfl
 | give t a b d =>
  unfold Wd.t
  simp only[at0,at1,at2,at3,at4,unT,unI,aa,T.nv_ok,T.ok_bind]
  rw[if_pos (by decide),if_neg (by decide),if_neg (by decide),if_neg (by decide),if_neg (by decide),if_neg (by decide),if_pos (by decide)]
  have key:jT t a b d m.apm m.apn m.apo m.apq m.apr m.aps m.apt m.apu=chk (dueL ds m (.give t a b d)) (m.apo++[Tp3.mk t (Tp4.mk d (tx "given") (some a) b) none],m.apu++[Wd.t (.give t a b d)]):=by
   unfold jT dueL;refine au (iY _ _ _) λ _=>au (mO _) λ hu=>au (aeF t) λ ht=>?_;obtain⟨q,hq⟩:=abr ht;rw[hq,aa,←brd hq];refine fH (l:=[_,_]) (jV _ _ hu) λ _=>au (mQ _ _) λ _=>au oV λ _=>?_;rw[T.gd_of (szl _ (by omega)),T.gd_of (szl _ (by omega))]
   rfl
  rw[key]
  try dsimp only
  rw[fU,fU]
  rfl
 | pay a b c d =>
  unfold Wd.t
  simp only[at0,at1,at2,at3,at4,unT,unI,aa,T.nv_ok,T.ok_bind]
  rw[if_pos (by decide),if_neg (by decide),if_neg (by decide),if_neg (by decide),if_neg (by decide),if_neg (by decide),if_neg (by decide)]
  have key:iV a b c d m.apm m.apn m.apo m.apq m.apr m.aps m.apt m.apu=chk (dueL ds m (.pay a b c d)) (m.apq++[(Tp4.mk d b a c,none)],m.apu++[Wd.t (.pay a b c d)]):=by
   unfold iV dueL;refine au (iY _ _ _) λ _=>au (iY _ _ _) λ _=>au (mO _) λ hu=>fH (l:=[_,_]) (jV _ _ hu) λ _=>au (mQ _ _) λ _=>au oV λ _=>?_;rw[T.gd_of (szl _ (by omega)),T.gd_of (szl _ (by omega))]
   rfl
  rw[key]
  try dsimp only
  rw[fU,fU]
  rfl
 | claim a t d x o p =>
  unfold Wd.t
  simp only[at0,at1,at2,at3,at4,at5,at6,unT,unI,unL,aa,T.nv_ok,T.ok_bind]
  rw[if_neg (by decide),if_pos (by decide)]
  have w1:o.length<=1000:=hw.1
  have w2:p.length<=1000:=hw.2
  have key:jw a t d x o p m.apm m.apn m.apo m.apq m.apr m.aps m.apt m.apu=chk (dueL ds m (.claim a t d x o p)) (((m.apr.length:Nat):Int),m.apo++[Tp3.mk t (Tp4.mk d (tx "won") none a) (some ((m.apr.length:Nat):Int))],m.apr++[suitD ds ⟨d,x,o,p,none⟩],m.aps++[d],m.apu++[Wd.t (.claim a t d x o p)]):=by
   unfold jw dueL;rw[cR (by simp;omega),aa,cR (by simp;omega),aa,T.nv_ok,T.ok_bind];rw[show([a]:List Tx)++o=a::o from rfl];refine au (iY _ _ _) λ h0=>au (iY _ _ _) λ _=>au (mO _) λ hu=>au (aeF t) λ ht=>?_;obtain⟨q,hq⟩:=abr ht;rw[hq,aa,←brd hq];refine fH (l:=[_,_]) (jV _ _ hu) λ hc=>au (mQ _ _) λ _=>fH (l:=capL m o p) (aat h.tr w1 w2) λ hcap=>?_;rw[lL]at hc;obtain⟨_,_,q1,q2⟩:=aav hcap
   have hsub:∀ y∈o++p,y∈(a::o)++p:=λ y hy=>List.mem_cons_of_mem _ hy
   refine fH (l:=[_]) (aeG h (λ y hy=>aau (vO hu hsub y hy) (vO hc.1 hsub y hy)) (abt h0).2 q1 q2) λ _=>?_;rw[keep_ok h hl _ _ (by simp),T.up_ok,T.ok_bind]
   try dsimp only
   rw[T.gd_of (szl _ (by omega))]
   rfl
  rw[key]
  try dsimp only
  rw[fU]
  rfl
 | wergild a b c d x o p =>
  unfold Wd.t
  simp only[at0,at1,at2,at3,at4,at5,at6,at7,unT,unI,unL,aa,T.nv_ok,T.ok_bind]
  rw[if_neg (by decide),if_neg (by decide),if_pos (by decide)]
  have w1:o.length<=1000:=hw.1
  have w2:p.length<=1000:=hw.2
  have key:gU a b c d x o p m.apm m.apn m.apo m.apq m.apr m.aps m.apt m.apu=chk (dueL ds m (.wergild a b c d x o p)) (((m.apr.length:Nat):Int),m.apq++[(Tp4.mk d b a c,some ((m.apr.length:Nat):Int))],m.apr++[suitD ds ⟨d,x,o,p,none⟩],m.aps++[d],m.apu++[Wd.t (.wergild a b c d x o p)]):=by
   unfold gU dueL;rw[cR (by simp;omega),aa,cR (by simp;omega),aa,T.nv_ok,T.ok_bind];rw[show([a,b]:List Tx)++o=a::b::o from rfl];refine au (iY _ _ _) λ _=>au (iY _ _ _) λ h0=>au (iY _ _ _) λ _=>au (mO _) λ hu=>fH (l:=[_,_]) (jV _ _ hu) λ hc=>au (mQ _ _) λ _=>fH (l:=capL m o p) (aat h.tr w1 w2) λ hcap=>?_;rw[lL]at hc;obtain⟨_,_,q1,q2⟩:=aav hcap
   have hsub:∀ y∈o++p,y∈(a::b::o)++p:=λ y hy=>List.mem_cons_of_mem _ (List.mem_cons_of_mem _ hy)
   refine fH (l:=[_]) (aeG h (λ y hy=>aau (vO hu hsub y hy) (vO hc.1 hsub y hy)) (abt h0).2 q1 q2) λ _=>?_;rw[keep_ok h hl _ _ (by simp),T.up_ok,T.ok_bind]
   try dsimp only
   rw[T.gd_of (szl _ (by omega))]
   rfl
  rw[key]
  try dsimp only
  rw[fU]
  rfl
 | accuse k n d x o p =>
  unfold Wd.t
  simp only[at0,at1,at2,at3,at4,at5,at6,at7,unT,unI,unL,aa,T.nv_ok,T.ok_bind]
  rw[if_neg (by decide),if_neg (by decide),if_neg (by decide)]
  have w1:o.length<=1000:=hw.1
  have w2:p.length<=1000:=hw.2
  have key:iW k n d x o p m.apm m.apn m.apo m.apq m.apr m.aps m.apt m.apu=chk (dueL ds m (.accuse k n d x o p)) (((m.apr.length:Nat):Int),m.apr++[suitD ds ⟨d,x,o,p,some (k,n)⟩],m.aps++[d],m.apu++[Wd.t (.accuse k n d x o p)]):=by
   unfold iW dueL;rw[cR (by omega),aa,T.nv_ok,T.ok_bind];refine au (iY _ _ _) λ h0=>au (iY _ _ _) λ _=>au (mO _) λ hu=>fH (l:=[_,_]) (akg h.tr k n) λ hsw=>?_;rw[lL]at hsw
   have hk:=of_decide_eq_false hsw.1
   obtain⟨q,hq⟩:∃ q,atI m.aps k=some q:=⟨_,rG (by omega) (by omega)⟩
   have ht:([q].any λ s=>decide (d < s))=tdyB m k d:=by
    unfold tdyB;rw[hq]
    simp
   rw[hq,aa,←ht];refine fH (l:=[_,_]) (jV _ _ hu) λ hc=>au (mQ _ _) λ _=>fH (l:=capL m o p) (aat h.tr w1 w2) λ hcap=>?_;rw[lL]at hc;obtain⟨_,_,q1,q2⟩:=aav hcap;refine fH (l:=[_]) (aeG h (λ y hy=>aau (vO hu (λ _ z=>z) y hy) (vO hc.1 (λ _ z=>z) y hy)) (abt h0).2 q1 q2) λ _=>?_;rw[(qW h.tr).1,T.up_ok,T.ok_bind];refine jB λ _=>?_;rw[keep_ok h hl _ _ (by simp),T.up_ok,T.ok_bind]
   rfl
  rw[key]
  try dsimp only
  rw[fU]
  rfl
end
inductive Pld:List Wd->MootT->Prop
 | nil:Pld [] nR
 | snoc {ds:List Wd} {m:MootT} {e:Wd}:Pld ds m->e.Wf->d8 (dueL ds m e)=none->Pld (ds++[e]) (eff ds m e)
theorem amN {ds:List Wd}{m:MootT}{e:Wd}(h:d8 (dueL ds m e)=none):m.apu.length < 400:=by
 have key:(romB m,12)∈dueL ds m e->m.apu.length < 400:=λ hm=>by
  have:=yQ.mp h _ hm
  unfold romB at this
  have:=of_decide_eq_false this
  omega
 refine key ?_
 cases e<;>simp[dueL,capL]
theorem Pld.both {ds:List Wd}{m:MootT}(h:Pld ds m):MInv ds m/\ds.length<=400:=by
 induction h with
 | nil=>exact⟨ag8,by simp⟩
 | @snoc ds m e _ hw hd ih =>
  obtain⟨i1,i2⟩:=ih
  have hlt:=amN hd
  obtain⟨_,_,_,_,_,l6⟩:=i1.len
  have hp:=aeA i1 (by omega) hw
  rw[abu i1 (by omega) hw,vN hd]at hp;exact⟨hp.2,by rw[List.length_append,List.length_singleton];omega⟩
theorem Pld.inv {ds:List Wd}{m:MootT}(h:Pld ds m):MInv ds m:=h.both.1
theorem Pld.len {ds:List Wd}{m:MootT}(h:Pld ds m):ds.length<=400:=h.both.2
theorem Pld.done {ds:List Wd}{m:MootT}(h:Pld ds m){e:Wd}(hw:e.Wf):iD m e.t=chk (dueL ds m e) (resD m e,eff ds m e):=abu h.inv (by have:=h.len;omega) hw
theorem qF {α:Type}{xs ys:List α}{x y:α}(h:xs++[x]=ys++[y]):xs=ys/\x=y:=by
 have:=List.append_inj' h rfl
 exact⟨this.1,(List.cons.inj this.2).1⟩
theorem akh {ds:List Wd}{m m':MootT}(h:Pld ds m)(h':Pld ds m'):m=m':=by
 induction h generalizing m' with
 | nil =>
  generalize hn:([]:List Wd)=l at h'
  cases h' with
  | nil=>rfl
  | snoc _ _ _=>simp at hn
 | @snoc ds m e _ _ _ ih =>
  generalize hn:ds++[e]=l at h'
  cases h' with
  | nil=>simp at hn
  | snoc h2 _ _ =>
   obtain⟨rfl,rfl⟩:=qF hn;rw[ih h2]
theorem Pld.pre {ds:List Wd}{m:MootT}(h:Pld ds m):∀ {ds1 ds2:List Wd},ds=ds1++ds2->∃ m1,Pld ds1 m1:=by
 induction h with
 | nil =>
  intro ds1 ds2 e
  have:ds1=[]:=by cases ds1 with
   | nil=>rfl
   | cons=>cases e
  exact⟨_,this ▸ Pld.nil⟩
 | @snoc ds m e h hw hd ih =>
  intro ds1 ds2 e2;rcases List.eq_nil_or_concat ds2 with rfl | ⟨l,x,rfl⟩
  ·rw[List.append_nil]at e2;exact⟨_,e2 ▸ Pld.snoc h hw hd⟩
  ·rw[List.concat_eq_append,←List.append_assoc]at e2;exact ih (qF e2).1
theorem Pld.next {ds1:List Wd}{m1:MootT}(h1:Pld ds1 m1){e:Wd}{ds2:List Wd}{m:MootT}(h:Pld (ds1++e::ds2) m):e.Wf/\d8 (dueL ds1 m1 e)=none/\Pld (ds1++[e]) (eff ds1 m1 e):=by
 obtain⟨m2,h2⟩:=h.pre (ds1:=ds1++[e]) (ds2:=ds2) (by simp)
 generalize hn:ds1++[e]=l at h2
 cases h2 with
 | nil=>simp at hn
 | snoc h3 hw hd =>
  obtain⟨rfl,rfl⟩:=qF hn
  have:=akh h1 h3
  subst this
  exact⟨hw,hd,Pld.snoc h1 hw hd⟩
def nmsD (ds:List Wd):List Tx:=(ds.filterMap Wd.come?).map Prod.fst
theorem Pld.names {ds:List Wd}{m:MootT}(h:Pld ds m):m.apm.arr.map Prod.fst=nmsD ds:=by
 rw[h.inv.arr]
 rfl
theorem uD (ds:List Wd)(e:Wd):nmsD (ds++[e])=nmsD ds++(e.come?.toList).map Prod.fst:=by
 unfold nmsD;rw[bY,List.map_append]
theorem pC {ds:List Wd}{m:MootT}(h:MInv ds m)(n:Tx):unkB m n=false↔n∈nmsD ds:=by
 unfold unkB nmsD;rw[←h.arr]
 constructor
 ·intro hq
  cases hv:dget m.apm.arr n with
  | none=>rw[hv]at hq;cases hq
  | some v=>exact List.mem_map.mpr ⟨_,gM hv,rfl⟩
 ·intro hq;obtain⟨v,hv,_⟩:=nO hq;rw[hv]
  rfl
theorem Pld.des {ds:List Wd}{m:MootT}(h:Pld ds m):m.apm.des=ds.filterMap Wd.die?:=by
 induction h with
 | nil=>rfl
 | @snoc ds m e _ _ _ ih =>
  rw[bY,←ih]
  cases e<;>first | rfl | exact(List.append_nil _).symm
theorem Pld.arr0 {ds:List Wd}{m:MootT}(h:Pld ds m):∀ p∈m.apm.arr,0<=p.2/\p.2<=9999:=by
 induction h with
 | nil=>simp[nR]
 | @snoc ds m e _ _ hd ih =>
  cases e with
  | come n d w =>
   intro p hp;rcases List.mem_append.mp hp with hp | hp
   ·exact ih p hp
   ·rw[List.mem_singleton]at hp
    subst hp
    exact abt (yQ.mp hd _ (List.mem_cons_of_mem _ List.mem_cons_self))
  | _=>exact ih
theorem Pld.dk {ds:List Wd}{m:MootT}(h:Pld ds m):(∀ p∈m.apm.des,p.1∈nmsD ds/\p.2.2∈nmsD ds)/\∀ (pre post:Des) (n:Tx) (v:Int×Tx),m.apm.des=pre++(n,v)::post->v.2≠n/\v.2∉pre.map Prod.fst:=by
 induction h with
 | nil=>exact⟨by simp[nR],λ pre post n v e=>by cases pre<;>cases e⟩
 | @snoc ds m e h hw hd ih =>
  obtain⟨i1,i2⟩:=ih
  have grow:(∀ p∈m.apm.des,p.1∈nmsD (ds++[e])/\p.2.2∈nmsD (ds++[e])):=λ p hp=>by
   rw[uD];exact⟨List.mem_append_left _ (i1 p hp).1,List.mem_append_left _ (i1 p hp).2⟩
  cases e with
  | die n d x =>
   have hall:=yQ.mp hd
   have h1:unkB m n=false:=hall (unkB m n,4) (by simp[dueL])
   have h2:unkB m x=false:=hall (unkB m x,4) (by simp[dueL])
   have h3:(decide (x=n)||gonB m x)=false:=hall (decide (x=n)||gonB m x,11) (by simp[dueL])
   rw[Bool.or_eq_false_iff]at h3
   have h5:x≠n:=of_decide_eq_false h3.1
   have h6:x∉m.apm.des.map Prod.fst:=wW (by
    have:=h3.2
    unfold gonB at this
    cases hq:dget m.apm.des x with
    | none=>rfl
    | some v=>rw[hq]at this;cases this)
   refine⟨λ p hp=>?_,λ pre post y v e2=>?_⟩
   ·rcases List.mem_append.mp hp with hp | hp
    ·exact grow p hp
    ·rw[List.mem_singleton]at hp
     subst hp
     rw[uD];exact⟨List.mem_append_left _ ((pC h.inv n).mp h1),List.mem_append_left _ ((pC h.inv x).mp h2)⟩
   ·have e2:m.apm.des++[(n,(d,x))]=pre++(y,v)::post:=e2
    rcases List.eq_nil_or_concat post with rfl | ⟨l,z,rfl⟩
    ·obtain⟨q1,q2⟩:=qF e2
     subst q1
     cases q2
     exact⟨h5,h6⟩
    ·rw[List.concat_eq_append,←List.cons_append,←List.append_assoc]at e2;exact i2 pre l y v (qF e2).1
  | _=>exact⟨grow,i2⟩
section
variable {ds:List Wd}{m:MootT}{ns:List Tx}
theorem Pld.fd (h:Pld ds m):Fd (nmsD ds) (ds.filterMap Wd.di?) m.apm.arr m.apm.des:=by
 refine⟨?_,h.names,h.arr0,?_,h.dk.1,h.dk.2⟩
 ·rw[h.inv.arr];unfold uA;rw[List.filterMap_filterMap]
  congr 1
  funext e
  cases e<;>first | rfl | (show none=(if(_:Tx)=comeX then _ else none);exact(if_neg (by decide)).symm)
 ·rw[h.des];unfold dies;rw[List.filterMap_filterMap,List.map_filterMap]
  congr 1
  funext e
  cases e<;>first | rfl | (show(if(_:Tx)=dieX then _ else none)=none;exact if_neg (by decide))
theorem Pld.al (h:Pld ds m):m.apm.arr.length<=40:=by
 induction h with
 | nil=>simp[nR]
 | @snoc ds m e _ _ hd ih =>
  cases e with
  | come n d w =>
   have:=yQ.mp hd (decide ((40:Int)<=(m.apm.arr.length:Int)),12) (by simp[dueL])
   have:=of_decide_eq_false this
   show(m.apm.arr++[(n,d)]).length<=40;rw[List.length_append,List.length_singleton]
   omega
  | _=>exact ih
theorem Pld.dnd (h:Pld ds m):(m.apm.des.map Prod.fst).Nodup:=by
 induction h with
 | nil=>exact List.nodup_nil
 | @snoc ds m e h _ hd ih =>
  cases e with
  | die n d x =>
   have h3:gonB m n=false:=yQ.mp hd (gonB m n,10) (by simp[dueL])
   show((m.apm.des++[(n,(d,x))]).map Prod.fst).Nodup;rw[List.map_append,List.nodup_append];refine⟨ih,by simp,λ a ha b hb=>?_⟩
   simp only[List.map_cons,List.map_nil,List.mem_singleton]at hb
   subst hb
   intro z
   subst z
   exact wW (by
    unfold gonB at h3
    cases hq:dget m.apm.des a with
    | none=>rfl
    | some v=>rw[hq]at h3;cases h3) ha
  | _=>exact ih
theorem Pld.dl (h:Pld ds m):m.apm.des.length<=40:=by
 have h1:=lA h.dnd (ys:=nmsD ds) λ x hx=>by
  obtain⟨p,hp,rfl⟩:=List.mem_map.mp hx;exact(h.dk.1 p hp).1
 rw[List.length_map,←h.names,List.length_map]at h1
 have:=h.al
 omega
end
section
variable {ds:List Wd}{m:MootT}{w:WorldT}
end
section
variable {ds:List Wd}{m:MootT}{ns:List Tx}
end
end Ty
namespace VS
open PySem PySem.Spec PyProof.Rows L2
def cutU (d:DeedT)(lo hi:Option Int):Option DeedT:=if HT.sIx d.ps.length 0 lo=0/\HT.sIx d.ps.length d.ps.length hi=d.ps.length then none else some ⟨cutT d.ps lo hi⟩
theorem ah0 (d:DeedT)(lo hi:Option Int):dSl (Enc.enc d) lo hi=(cutU d lo hi).map λ z=>S.d (Enc.enc z):=by
 show(if HT.sIx (d.ps.map Enc.enc).length 0 lo=0/\HT.sIx (d.ps.map Enc.enc).length (d.ps.map Enc.enc).length hi=(d.ps.map Enc.enc).length then none else some (S.d (.tuple (cutD (d.ps.map Enc.enc) lo hi))))=_;unfold cutU;rw[List.length_map]
 split
 ·rfl
 ·show _=some (S.d (.tuple ((cutT d.ps lo hi).map Enc.enc)));unfold cutD cutT;rw[List.length_map,List.map_take,List.map_drop]
def Un.isL:Un->Bool
 | .l _=>true
 | _=>false
theorem aki (u:Un):isTy "list" (Enc.enc u)=some (Enc.enc u.isL):=by
 cases u with
 | i _=>exact abb (show kitB "int" "list"=some false by decide +kernel)
 | t _=>exact abb (show kitB "str" "list"=some false by decide +kernel)
 | l _=>exact abb (show kitB "list" "list"=some true by decide +kernel)
 | o=>exact abb (show kitB "NoneType" "list"=some false by decide +kernel)
theorem akj {A:LS}{ga:LS->R D}{u:Un}(h:Pu A ga (Enc.enc u)):Pu A (gIsi "list" ga) (Enc.enc u.isL):=wF h (aki u)
section
variable {ω β ε:Type}{A:LS}{t:T ε β}{F:β->ω}{B:β->LS}{X:ε->LS}
end
end VS
noncomputable section
namespace Ty
open PySem VS L2
section
variable {ds:List Wd}{m:MootT}
end
end Ty
namespace Ty
open PySem VS L2 Lw
section
variable {ds:List Wd}{m:MootT}
theorem wB {α β:Type}(f:α->β):∀ xs:List α,xs.flatMap (λ i=>[f i])=xs.map f
 | []=>rfl
 | x::xs=>by rw[List.flatMap_cons,List.map_cons,wB f xs];rfl
end
end Ty
namespace Ty
open PySem VS L2
def unK:Un->Nat
 | .i _=>0
 | .t _=>1
 | .l _=>2
 | .o=>3
def Wd.put:Wd->Nat->Un->Wd
 | .rise _ d w,1,.t x=>.rise x d w
 | .rise n _ w,2,.i x=>.rise n x w
 | .rise n d _,3,.i x=>.rise n d x
 | .die _ d h,1,.t x=>.die x d h
 | .die n _ h,2,.i x=>.die n x h
 | .die n d _,3,.t x=>.die n d x
 | .penance _,1,.t x=>.penance x
 | .bring _ d,1,.t x=>.bring x d
 | .bring n _,2,.i x=>.bring n x
 | .give _ a b d,1,.i x=>.give x a b d
 | .give t _ b d,2,.t x=>.give t x b d
 | .give t a _ d,3,.t x=>.give t a x d
 | .give t a b _,4,.i x=>.give t a b x
 | .pay _ b c d,1,.t x=>.pay x b c d
 | .pay a _ c d,2,.t x=>.pay a x c d
 | .pay a b _ d,3,.i x=>.pay a b x d
 | .pay a b c _,4,.i x=>.pay a b c x
 | .claim _ t d y o p,1,.t x=>.claim x t d y o p
 | .claim a _ d y o p,2,.i x=>.claim a x d y o p
 | .claim a t _ y o p,3,.i x=>.claim a t x y o p
 | .claim a t d _ o p,4,.i x=>.claim a t d x o p
 | .claim a t d y _ p,5,.l x=>.claim a t d y x p
 | .claim a t d y o _,6,.l x=>.claim a t d y o x
 | .wergild _ b c d y o p,1,.t x=>.wergild x b c d y o p
 | .wergild a _ c d y o p,2,.t x=>.wergild a x c d y o p
 | .wergild a b _ d y o p,3,.i x=>.wergild a b x d y o p
 | .wergild a b c _ y o p,4,.i x=>.wergild a b c x y o p
 | .wergild a b c d _ o p,5,.i x=>.wergild a b c d x o p
 | .wergild a b c d y _ p,6,.l x=>.wergild a b c d y x p
 | .wergild a b c d y o _,7,.l x=>.wergild a b c d y o x
 | .accuse _ n d y o p,1,.i x=>.accuse x n d y o p
 | .accuse k _ d y o p,2,.t x=>.accuse k x d y o p
 | .accuse k n _ y o p,3,.i x=>.accuse k n x y o p
 | .accuse k n d _ o p,4,.i x=>.accuse k n d x o p
 | .accuse k n d y _ p,5,.l x=>.accuse k n d y x p
 | .accuse k n d y o _,6,.l x=>.accuse k n d y o x
 | e,_,_=>e
end Ty
noncomputable section
namespace Ty
open PySem VS Lw L2
end Ty
namespace Ty
open PySem VS L2
section
variable {ds:List Wd}{m:MootT}{ns:List Tx}
end
end Ty
namespace Ty
open PySem VS L2 Lw
section
variable {ds:List Wd}{m:MootT}
theorem Pld.take (g:Pld ds m)(k:Nat):∃ mk,Pld (ds.take k) mk:=g.pre (ds1:=ds.take k) (ds2:=ds.drop k) (List.take_append_drop k ds).symm
end
section
variable {ds:List Wd}{m:MootT}
end
section
variable {ds:List Wd}{m:MootT}
end
end Ty
noncomputable section
namespace Ty
open PySem VS L2 Lw
section
variable {ds:List Wd}{m:MootT}{w:WorldT}
end
end Ty
noncomputable section
namespace Ty
open PySem VS L2 Lw
section
variable {ds:List Wd}{m:MootT}{w:WorldT}
end
end Ty
noncomputable section
namespace Ty
open PySem VS L2
section
variable {ds:List Wd}{m:MootT}{w:WorldT}
end
def chgP (t0 t1:List Bool)(i:Int):Bool:=decide (t1[i.toNat]?≠t0[i.toNat]?)
def chgL (M:Nat)(t0 t1:List Bool):List Int:=(rangeT M).filter (chgP t0 t1)
section
variable {ds:List Wd}{m:MootT}{w:WorldT}
def cntL (M:Nat)(t0 t1:List Bool):List Int:=chgL M t0 t1++(if(t1[M]?).getD false=true then [(M:Int)] else [])
end
section
variable {ds:List Wd}{m:MootT}{w:WorldT}
end
end Ty
namespace Ty
open PySem VS L2
theorem aax {α:Type}[Enc α][DecidableEq α][Sc α]:∀ xs:List α,PyData.canLayAll0 (xs.map Enc.enc)=true
 | []=>by unfold PyData.canLayAll0;rfl
 | x::xs=>by
  show PyData.canLayAll0 (Enc.enc x::xs.map Enc.enc)=true;unfold PyData.canLayAll0;rw[Sc.lay x,aax xs]
  rfl
theorem dpAllS {α:Type}[Enc α][DecidableEq α][i:Sc α]:∀ xs:List α,PyData.depthAll (xs.map Enc.enc)<=i.dep
 | []=>by unfold PyData.depthAll;exact Nat.zero_le _
 | x::xs=>by
  show PyData.depthAll (Enc.enc x::xs.map Enc.enc)<=_;unfold PyData.depthAll;exact Nat.max_le.mpr ⟨i.dp x,dpAllS xs⟩
theorem aay {α:Type}[Enc α][DecidableEq α][Sc α]:∀ xs ys:List α,PyData.eqvAll (xs.map Enc.enc) (ys.map Enc.enc)=decide (xs=ys)
 | [],[]=>by unfold PyData.eqvAll;rfl
 | [],_::_=>by unfold PyData.eqvAll;rfl
 | _::_,[]=>by unfold PyData.eqvAll;rfl
 | x::xs,y::ys=>by
  show PyData.eqvAll (Enc.enc x::xs.map Enc.enc) (Enc.enc y::ys.map Enc.enc)=_;unfold PyData.eqvAll;rw[Sc.eqv x y,aay xs ys]
  by_cases h1:x=y<;>by_cases h2:xs=ys<;>simp[h1,h2]
instance {α:Type}[Enc α][DecidableEq α][i:Sh α]:Sh (List (Option α)) where
 dep:=i.dep+1
 nn:=λ _ h=>by cases h
 lay:=λ xs=>by
  show PyData.canLay0 (.list (xs.map Enc.enc))=true
  unfold PyData.canLay0
  exact aax xs
 dp:=λ xs=>by
  show PyData.depth (.list (xs.map Enc.enc))<=_
  unfold PyData.depth
  exact Nat.succ_le_succ (dpAllS xs)
 eqv:=λ xs ys=>by
  show PyData.eqv (.list (xs.map Enc.enc)) (.list (ys.map Enc.enc))=_
  unfold PyData.eqv
  exact aay xs ys
end Ty
noncomputable section
namespace Ty
open PySem VS L2
section
variable {us:List Suit}
end
section
variable {ds:List Wd}{m:MootT}{w:WorldT}
end
section
variable {ds:List Wd}{m:MootT}{w:WorldT}
end
section
variable {ds:List Wd}{m:MootT}{w:WorldT}
section
variable {k:Int}{n one other:Tx}
end
end
section
variable {ds:List Wd}{m:MootT}{w:WorldT}
end
end Ty
namespace Ty
open PySem VS L2
def T.try2 {ε α:Type}(k1 ks:List Nat)(t:T Unit α)(h1 h2:T Empty α):T ε α:=match t with
 | .ok a=>.ok a
 | .er k _=>if k∈k1 then T.up h1 else if k∈ks then T.up h2 else .no
 | .no=>.no
section
variable {γ ε ν ω α β:Type}{A:LS}{F:β->ω}{B:β->LS}{X:ε->LS}
end
end Ty
noncomputable section
namespace Ty
open PySem VS L2
section
variable {ds:List Wd}{m:MootT}{w:WorldT}
end
section
variable {ds:List Wd}{m:MootT}{w:WorldT}
end
end Ty
noncomputable section
namespace Ty
open PySem VS Lw L2
def nU (apB:MootT)(deed:DeedT):T Empty (Tx×MootT) :=
 ((T.try2 [12] [2,3,4,5,6,7,8,9,10,11,12,13,14,15,16] (((iD apB deed).bind λ(r3,moot4) =>
 .ok (moot4,(tx ""))):T Unit (MootT×Tx)) ((.ok (apB,(tx "TooMany"))):T Empty (MootT×Tx)) ((.ok (apB,(tx "other"))):T Empty (MootT×Tx))):T Empty (MootT×Tx)).bind λ(moot1,kind2) =>
 .ok (kind2,moot1)
end Ty
namespace Ty
open PySem VS L2
section
variable {ns:List Tx}{z:Tx}{ds:List Wd}{m:MootT}
theorem kind_ok (g:Pld ds m){e:Wd}(hw:e.Wf)(h:d8 (dueL ds m e)=none):nU m e.t=.ok (tx "",eff ds m e):=by
 unfold nU;rw[g.done hw,vN h]
 rfl
end
section
variable {ns:List Tx}{z:Tx}{ds:List Wd}{m:MootT}
end
section
variable {ns:List Tx}{z:Tx}{ds:List Wd}{m:MootT}
end
end Ty
noncomputable section
namespace Ty
open PySem VS L2
section
variable {u:Tp6 Tx Tx Tx Tx Tx Tx}{ds:List Wd}{m:MootT}
end
section
variable {u:Tp6 Tx Tx Tx Tx Tx Tx}{ds:List Wd}{m:MootT}
end
section
variable {u:Tp6 Tx Tx Tx Tx Tx Tx}{ds:List Wd}{m:MootT}
end
section
variable {u:Tp6 Tx Tx Tx Tx Tx Tx}{ds:List Wd}{m:MootT}
end
section
variable {u:Tp6 Tx Tx Tx Tx Tx Tx}{ds:List Wd}{m:MootT}
end
end Ty
namespace Ty
open PySem VS L2
instance:Sh DeedT where
 dep:=2
 nn:=λ _ h=>by cases h
 lay:=λ x=>by
  show PyData.canLay0 (.tuple (x.ps.map Enc.enc))=true
  unfold PyData.canLay0
  exact aax x.ps
 dp:=λ x=>by
  show PyData.depth (.tuple (x.ps.map Enc.enc))<=_
  unfold PyData.depth
  exact Nat.succ_le_succ (dpAllS x.ps)
 eqv:=λ x y=>by
  show PyData.eqv (.tuple (x.ps.map Enc.enc)) (.tuple (y.ps.map Enc.enc))=_
  unfold PyData.eqv
  rw[aay]
  cases x
  cases y
  simp
end Ty
noncomputable section
namespace Ty
open PySem VS L2
section
variable {ds:List Wd}{m:MootT}{w:WorldT}
end
section
variable {ds:List Wd}{m:MootT}{w:WorldT}
end
section
variable {ds:List Wd}{m:MootT}{w:WorldT}
end
section
variable {ds:List Wd}{m:MootT}{w:WorldT}
end
end Ty
namespace VS
open PySem PySem.Spec PyProof.Rows L2
section
variable {κ α:Type}{A:LS}
def PuP (A:LS)(g:LS->R (List (Key×D)))(l:List (Key×D)):Prop:=∀ L,Mt A L->g L=.ok l L
theorem aeL [Enc1 κ][Enc α]:PuP A gPNil (abV ([]:Dt κ α)):=λ L _=>rfl
theorem jj [Enc κ][Enc1 κ][i:KD1 κ][Enc α]{ga gb:LS->R D}{gr:LS->R (List (Key×D))}{x:κ}{z:α}{l:Dt κ α}(h1:Pu A ga (Enc.enc x))(h2:Pu A gb (Enc.enc z))(h3:PuP A gr (abV l)):PuP A (gPCons ga gb gr) (abV (((x,z)::l):Dt κ α)):=λ L hL=>by
 show(ga L).bind (λ d L1=>(gb L1).bind λ e L2=>(gr L2).bind λ r L3=>match keyD d with
  | some k=>R.ok ((k,e)::r) L3
  | none=>R.stuck)=_
 rw[h1 L hL,R.bind_ok,h2 L hL,R.bind_ok,h3 L hL,R.bind_ok,i.eq x]
 rfl
theorem ahf {ds:List (Key×D)}{k:Key}{e:D}(h:(ds.any λ kv=>decide (kv.1=k))=false):putD ds k e=ds++[(k,e)]:=by
 unfold putD;rw[h]
 rfl
theorem yS:∀ (more kvs:List (Key×D)),(kvs++more).Pairwise (λ a b=>a.1≠b.1)->mergeD kvs more=kvs++more
 | [],kvs,_=>(List.append_nil _).symm
 | (k,e)::r,kvs,h=>by
  show mergeD (putD kvs k e) r=_
  have h1:(kvs.any λ kv=>decide (kv.1=k))=false:=by
   rw[List.any_eq_false];intro p hp
   have:=(List.pairwise_append.mp h).2.2 p hp (k,e) List.mem_cons_self
   rw[decide_eq_true_eq];exact this
  rw[ahf h1,yS r (kvs++[(k,e)]) (by rw[List.append_assoc];exact h),List.append_assoc]
  rfl
theorem abv [Enc1 κ][Enc α]{g:LS->R (List (Key×D))}{l:Dt κ α}(h:PuP A g (abV l))(hl:l.length<=15)(hm:(l.map Prod.fst).Nodup):Pu A (gDlitN g) (.odK (abV l)):=λ L hL=>by
 show(g L).bind (λ kvs L1=>if kvs.length<=15 then R.ok (S.odK (mergeD [] kvs)) L1 else .stuck)=_
 have h1:(abV l).length<=15:=by
  unfold abV;rw[List.length_map];exact hl
 rw[h L hL,R.bind_ok,if_pos h1,yS,List.nil_append];rw[List.nil_append];unfold abV;rw[List.pairwise_map];exact(List.pairwise_map.mp hm).imp λ hne he=>hne (Enc1.inj _ _ he)
end
section
variable {ε β κ α ω:Type}{A:LS}{t:T ε β}{F:β->ω}{B:β->LS}{X:ε->LS}
end
end VS
noncomputable section
namespace Ty
open PySem VS L2
section
variable {ds:List Wd}{m:MootT}{w:WorldT}
end
section
variable {ds:List Wd}{m:MootT}{w:WorldT}
end
section
variable {ds:List Wd}{m:MootT}{w:WorldT}
end
section
variable {ds:List Wd}{m:MootT}{w:WorldT}
end
end Ty
noncomputable section
namespace Ty
open PySem VS L2
section
variable {ds:List Wd}{m:MootT}
end
section
variable {ds:List Wd}{m:MootT}
end
section
variable {ds:List Wd}{m:MootT}
end
end Ty
noncomputable section
namespace Ty
open PySem VS Lw L2
end Ty
namespace Ty
open PySem VS L2
section
variable {us:List Suit}{apu:List Bool}{c:Nat}{u:Suit}
end
section
variable {ds:List Wd}{m:MootT}{w:WorldT}
end
section
variable {ds:List Wd}{m:MootT}
end
section
variable {us as:List Suit}{S:List Oa}{o:Tx}
end
section
variable {ds1:List Wd}{m1 m:MootT}{o:Tx}{pre:List Oa}
end
end Ty
noncomputable section
namespace VS
open PySem PySem.Spec PyProof.Rows L2
section
variable {ω β γ δ ε:Type}{A:LS}{t:T ε β}{F:β->ω}{B:β->LS}{X:ε->LS}{m:LS->R S}{i:Nat}{ge:LS->R S}{gk:LS->R D}
end
section
variable {ω β ε:Type}{A:LS}{t:T ε β}{F:β->ω}{B:β->LS}{X:ε->LS}{K:Kont ω}{j:Nat}{f:D->LS->Option LS}{g:LS->R O}
end
end VS
noncomputable section
namespace VS
open PySem PySem.Spec PyProof.Rows L2
section
variable {κ α:Type}{A:LS}
end
instance:Enc WorldT:=⟨λ w=>.list [.list (w.apz.map Enc.enc),.list (w.apA.map Enc.enc),.list (w.apr.map Enc.enc)]⟩
class Sl (α:Type)[Enc α] where
 sl:∀ x:α,scal (Enc.enc x)=true
instance:Sl Int:=⟨λ _=>rfl⟩
instance:Sl Tx:=⟨λ _=>rfl⟩
instance:Sl Bool:=⟨λ _=>rfl⟩
instance:Sl Unit:=⟨λ _=>rfl⟩
instance {α:Type}[Enc α][Sl α]:Sl (Option α):=⟨λ x=>match x with
 | none=>rfl
 | some a=>Sl.sl a⟩
class Fl (α:Type)[Enc α] where
 fl:∀ x:α,flat (Enc.enc x)=true
theorem aeO {d:D}(h:scal d=true):flat d=true:=by
 cases d with
 | tuple _=>cases h
 | _=>exact h
instance (priority:=low){α:Type}[Enc α][Sl α]:Fl α:=⟨λ x=>aeO (Sl.sl x)⟩
instance {α β:Type}[Enc α][Enc β][Sl α][Sl β]:Fl (α×β):=⟨λ p=>by
 show([Enc.enc p.1,Enc.enc p.2]:List D).all scal=true
 simp[Sl.sl]⟩
instance {α β γ:Type}[Enc α][Enc β][Enc γ][Sl α][Sl β][Sl γ]:Fl (Tp3 α β γ):=⟨λ p=>by
 show([Enc.enc p.a,Enc.enc p.b,Enc.enc p.c]:List D).all scal=true
 simp[Sl.sl]⟩
instance {α β γ δ:Type}[Enc α][Enc β][Enc γ][Enc δ][Sl α][Sl β][Sl γ][Sl δ]:Fl (Tp4 α β γ δ):=⟨λ p=>by
 show([Enc.enc p.a,Enc.enc p.b,Enc.enc p.c,Enc.enc p.d]:List D).all scal=true
 simp[Sl.sl]⟩
section
variable {ε ε' α β γ δ κ ω:Type}{A A2:LS}{t:T ε β}{F:β->ω}{B:β->LS}{X:ε->LS}
end
end VS
noncomputable section
namespace Ty
open PySem VS L2
section
variable {ds:List Wd}{m:MootT}{w:WorldT}
end
section
variable {ds:List Wd}{m:MootT}{w:WorldT}
end
section
variable {ds:List Wd}{m:MootT}{w:WorldT}
end
end Ty
namespace VS
open PySem PySem.Spec PyProof.Rows L2
section
variable {ω β γ δ ε:Type}{A:LS}{t:T ε β}{F:β->ω}{B:β->LS}{X:ε->LS}{i j:Nat}{as:List Aw}{gk:LS->R D}{g0 g1:LS->R O}{K:Kont ω}
end
end VS
noncomputable section
namespace Ty
open PySem VS L2
section
variable {ds:List Wd}{m:MootT}{w:WorldT}
end
end Ty
namespace VS
open PySem PySem.Spec L2 TL
def fineS (z:Str):Prop:=∀ c∈z.cps.toList,c < 1114112
theorem Tx.fine (x:Tx):fineS x.s:=λ c h=>by
 rw[Tx.s_list]at h;obtain⟨d,_,rfl⟩:=List.mem_map.mp h;exact d.isLt
def Tx.ofS (z:Str):Tx:=Tx.of z.cps.toList
theorem Tx.ofS_s {z:Str}(h:fineS z):(Tx.ofS z).s=z:=Tx.of_s h
theorem Tx.s_ofS (x:Tx):Tx.ofS x.s=x:=Tx.s_inj (Tx.ofS_s x.fine)
theorem xq {S:List Nat}:∀ (l:List Nat) (k:Nat) (acc p:List Nat),p∈spl S k acc l->∀ c∈p,c∈acc∨c∈l
 | [],k,acc,p,h,c,hc=>by
  rw[spl_nil]at h
  cases List.mem_singleton.mp h
  exact .inl hc
 | d::r,0,acc,p,h,c,hc=>by
  cases hp:pre S (d::r) with
  | true =>
   rw[spl_hit hp]at h;rcases List.mem_cons.mp h with rfl | h
   ·exact .inl hc
   ·rcases xq r _ [] p h c hc with q | q
    ·cases q
    ·exact .inr (List.mem_cons_of_mem _ q)
  | false =>
   rw[spl_miss hp]at h;rcases xq r 0 (acc++[d]) p h c hc with q | q
   ·rcases List.mem_append.mp q with q | q
    ·exact .inl q
    ·exact .inr (by rw[List.mem_singleton.mp q];exact List.mem_cons_self)
   ·exact .inr (List.mem_cons_of_mem _ q)
 | d::r,k+1,acc,p,h,c,hc=>by
  rcases xq r k acc p h c hc with q | q
  ·exact .inl q
  ·exact .inr (List.mem_cons_of_mem _ q)
theorem ab7 {x y:Str}(hx:fineS x)(hy:tl y≠[])(hk:y.cps.all (· < 256)=true):∀ p∈Txt.split x y,fineS p:=λ p hp c hc=>by
 have e:=split_spl x y hy (kind_ok hk)
 have h1:tl p∈spl (tl y) 0 [] (tl x):=by
  rw[←e];exact List.mem_map_of_mem hp
 rcases xq _ _ _ _ h1 c hc with q | q
 ·cases q
 ·exact hx c q
def splitT (x y:Tx):Option (List Tx):=if(y.s.length == 0)=false/\x.s.length+2<=sizeLine then some ((Txt.split x.s y.s).map Tx.ofS) else none
theorem aaz {y:Tx}(h:(y.cs.all λ c=>decide (c.val < 256))=true):y.s.cps.all (· < 256)=true:=by
 rw[←Array.all_toList,Tx.s_list,List.all_map];exact h
theorem akl {x y:Tx}(hy:tl y.s≠[])(hk':(y.cs.all λ c=>decide (c.val < 256))=true):dSplit (Enc.enc x) (Enc.enc y)=(splitT x y).map λ z=>S.ol (z.map Enc.enc):=by
 have hk:=aaz hk'
 show(if(y.s.length == 0)=false/\x.s.length+2<=sizeLine then some (S.ol ((Txt.split x.s y.s).map PyData.str)) else none)=_;unfold splitT
 by_cases h:(y.s.length == 0)=false/\x.s.length+2<=sizeLine
 ·rw[if_pos h,if_pos h];show _=some (S.ol (((Txt.split x.s y.s).map Tx.ofS).map Enc.enc));rw[List.map_map]
  congr 2
  refine List.map_congr_left λ p hp=>?_;show PyData.str p=PyData.str (Tx.ofS p).s;rw[Tx.ofS_s (ab7 x.fine hy hk p hp)]
 ·rw[if_neg h,if_neg h]
  rfl
def tabT (rows:List (Str×Str))(x:Tx):Option Tx:=(rows.lookup x.s).map Tx.ofS
theorem lookup_mem {rows:List (Str×Str)}{x y:Str}(h:rows.lookup x=some y):∃ k,(k,y)∈rows:=by
 induction rows with
 | nil=>cases h
 | cons r rs ih =>
  obtain⟨k,v⟩:=r;rw[List.lookup_cons]at h
  split at h
  ·cases h
   exact⟨k,List.mem_cons_self⟩
  ·obtain⟨k',h'⟩:=ih h;exact⟨k',List.mem_cons_of_mem _ h'⟩
theorem aoK {rows:List (Str×Str)}(hr:(rows.all λ r=>decide ((Tx.ofS r.2).s=r.2))=true)(x:Tx):dTab rows (Enc.enc x)=(tabT rows x).map Enc.enc:=by
 show(rows.lookup x.s).map PyData.str=((rows.lookup x.s).map Tx.ofS).map Enc.enc
 cases h:rows.lookup x.s with
 | none=>rfl
 | some y =>
  obtain⟨k,hk⟩:=lookup_mem h
  have e:(Tx.ofS y).s=y:=of_decide_eq_true (List.all_eq_true.mp hr _ hk)
  show some (PyData.str y)=some (PyData.str (Tx.ofS y).s);rw[e]
end VS
namespace Ty
open PySem VS L2
section
variable {ε α β γ ω:Type}{A:LS}{t:T ε β}{F:β->ω}{B:β->LS}{X:ε->LS}
def splK (gb:LS->R D)(d:D)(L1:LS):R S:=match d with
 | .str a=>(gb L1).bind λ e L2=>ofO (dSplit (.str a) e) L2
 | _=>.stuck
theorem akm {ga gb:LS->R D}{k:S->LS->R ω}(h:SK A (λ L=>(ga L).bind λ d L1=>(splK gb d L1).bind k) t F B X):SK A (λ L=>(gSplit ga gb L).bind k) t F B X:=fO (k:=splK gb) h
theorem akn {gb:LS->R D}{k:S->LS->R ω}{x:Tx}(h:SK A (λ L=>(gb L).bind λ e L2=>(ofO (dSplit (Enc.enc x) e) L2).bind k) t F B X):SK A (λ L1=>(splK gb (Enc.enc x) L1).bind k) t F B X:=fO (k:=λ e L2=>ofO (dSplit (Enc.enc x) e) L2) h
end
end Ty
noncomputable section
namespace Ty
open PySem VS Lw L2
end Ty
namespace Ty
open PySem VS L2
section
variable {ns:List Tx}{ds:List Wd}{m:MootT}
end
section
variable {ns:List Tx}{ds:List Wd}{m:MootT}{a b c d f:Tx}
end
section
variable {ns:List Tx}{ds:List Wd}{m:MootT}{a b c d f:Tx}
variable {z:Tx}{D M F:Int}
end
section
variable {ns:List Tx}{ds:List Wd}{m:MootT}{a b c d f z:Tx}{D M F:Int}
end
end Ty
namespace Ty
open PySem PySem.Spec VS L2 TL
section
variable {ns:List Tx}{ds:List Wd}{m:MootT}{a b c d f z:Tx}{D M F:Int}
end
end Ty
namespace VS
open PySem PySem.Spec L2 TL
def strI (n:Int):Option Tx:=if n.natAbs.log2 < 1920 then some (tx (toString n)) else none
theorem aoN (n:Int):dStr (Enc.enc n)=(strI n).map Enc.enc:=by
 show(if n.natAbs.log2 < 1920 then some (PyData.str (toString n)) else none)=_;unfold strI
 by_cases h:n.natAbs.log2 < 1920
 ·rw[if_pos h,if_pos h];show some (PyData.str (Str.ofString (toString n)))=some (PyData.str (tx (toString n)).s);rw[anh]
 ·rw[if_neg h,if_neg h]
  rfl
def strU:Un->Option Tx
 | .i n=>strI n
 | .t x=>some x
 | _=>none
theorem akq (u:Un):dStr (Enc.enc u)=(strU u).map Enc.enc:=by
 cases u with
 | i n=>exact aoN n
 | t x=>rfl
 | l xs=>rfl
 | o=>rfl
def idxT (xs:List Tx)(k:Tx):Option Int:=(xs.findIdx? λ y=>decide (y=k)).map λ j=>((j:Nat):Int)
theorem aoO (xs:List Tx)(k:Tx):dIdx (Enc.enc xs) (Enc.enc k)=(idxT xs k).map Enc.enc:=by
 show(strsOf (xs.map Enc.enc)).bind (λ ys=>(txIdx k.s ys).map λ j=>PyData.int (j:Nat))=_;rw[oE];show(txIdx k.s (xs.map Tx.s)).map (λ j=>PyData.int ((j:Nat):Int))=_;unfold txIdx idxT;rw[List.findIdx?_map]
 have e:((λ y=>y == k.s)∘Tx.s)=λ y=>decide (y=k):=by
  funext y
  show(y.s == k.s)=decide (y=k)
  by_cases h:y=k
  ·subst h
   simp
  ·rw[decide_eq_false h];exact beq_false_of_ne λ q=>h (Tx.s_inj q)
 rw[e,Option.map_map]
 rfl
theorem yV {S:List Nat}:∀ {ps:List (List Nat)} {c:Nat},c∈joinL S ps->c∈S∨∃ p∈ps,c∈p
 | [],c,h=>by cases h
 | [p],c,h=>.inr ⟨p,List.mem_singleton.mpr rfl,h⟩
 | p::q::r,c,h=>by
  have h:c∈p++(S++joinL S (q::r)):=h
  rcases List.mem_append.mp h with h | h
  ·exact .inr ⟨p,List.mem_cons_self,h⟩
  rcases List.mem_append.mp h with h | h
  ·exact .inl h
  rcases yV h with h | ⟨p',h1,h2⟩
  ·exact .inl h
  ·exact .inr ⟨p',List.mem_cons_of_mem _ h1,h2⟩
theorem aeQ (z:Tx)(xs:List Tx):fineS (Txt.join z.s (xs.map Tx.s)):=λ c hc=>by
 rw[join_eq]at hc
 have h2:c∈joinL (tl z.s) ((xs.map Tx.s).map tl):=by
  rw[←tl_join];exact hc
 rcases yV h2 with h | ⟨p,h1,h2⟩
 ·exact z.fine c h
 ·obtain⟨y,hy,rfl⟩:=List.mem_map.mp h1;obtain⟨x,_,rfl⟩:=List.mem_map.mp hy;exact x.fine c h2
def joinT (z:Tx)(xs:List Tx):Option Tx:=if joinOk z.s (xs.map Tx.s) then some (Tx.ofS (Txt.join z.s (xs.map Tx.s))) else none
theorem ah2 (z:Tx)(xs:List Tx):dJoin (.str z.s) (Enc.enc xs)=(joinT z xs).map Enc.enc:=by
 show(strsOf (xs.map Enc.enc)).bind (λ ys=>if joinOk z.s ys then some (PyData.str (Txt.join z.s ys)) else none)=_;rw[oE];show(if joinOk z.s (xs.map Tx.s) then some (PyData.str (Txt.join z.s (xs.map Tx.s))) else none)=_;unfold joinT
 split
 ·show _=some (PyData.str (Tx.ofS _).s);rw[Tx.ofS_s (aeQ z xs)]
 ·rfl
def ninTx (x y:Tx):Option Bool:=match x.cs with
 | [c]=>some (!decide (c∈y.cs))
 | _=>none
theorem aoP (x y:Tx):dNotIn (Enc.enc x) (Enc.enc y)=(ninTx x y).map Enc.enc:=by
 obtain⟨cs⟩:=x;show((if(Tx.mk cs).s.length=1 then some (decide ((Tx.mk cs).s.cps.getD 0 0∈y.s.cps.toList)) else none).map λ b=>PyData.bool (!b))=_
 match cs with
 | []=>rfl
 | [c] =>
  rw[if_pos (show(Tx.mk [c]).s.length=1 from rfl)];show some (PyData.bool (!decide (c.val∈y.s.cps.toList)))=some (PyData.bool (!decide (c∈y.cs)))
  have:(c.val∈y.s.cps.toList)↔c∈y.cs:=by
   rw[Tx.s_list,List.mem_map];exact⟨λ⟨d,h1,h2⟩=>Fin.ext h2 ▸ h1,λ h=>⟨c,h,rfl⟩⟩
  rw[decide_eq_decide.mpr this]
 | c::d::cs =>
  rw[if_neg (by rw[Tx.s_len];simp)]
  rfl
def intT (x:Tx):Option Int:=if x.s.length<=640 then PySem.intText? x.s else none
theorem aoQ (x:Tx):dIntS (Enc.enc x)=(intT x).map Enc.enc:=by
 show(if x.s.length<=640 then(PySem.intText? x.s).map PyData.int else none)=_;unfold intT
 split
 ·rfl
 ·rfl
section
variable {α β:Type}[Enc α][Enc β]
theorem amQ (xs:List Un)(ys:List (List Tx)):dAdd (Enc.enc xs) (Enc.enc ys)=(catT xs (ys.map Un.l)).map λ z=>S.ol (z.map Enc.enc):=by
 rw[←aak,List.map_map]
 rfl
end
theorem ah3 (xs:List Un):dTupL (Enc.enc xs)=some (Enc.enc (DeedT.mk xs)):=rfl
end VS
namespace Ty
open PySem VS L2
section
variable {ε α β γ ω κ:Type}{A:LS}{t:T ε β}{F:β->ω}{B:β->LS}{X:ε->LS}
theorem akr {ga gb:LS->R D}{k:D->LS->R ω}(h:SK A (λ L=>(ga L).bind λ d L1=>(idxL gb d L1).bind k) t F B X):SK A (λ L=>(aaa ga gb L).bind k) t F B X:=fO (k:=idxL gb) h
theorem aks {gb:LS->R D}{k:D->LS->R ω}{xs:List Tx}(h:SK A (λ L=>(gb L).bind λ e L2=>(ofO (dIdx (Enc.enc xs) e) L2).bind k) t F B X):SK A (λ L1=>(idxL gb (Enc.enc xs) L1).bind k) t F B X:=fO (k:=λ e L2=>ofO (dIdx (Enc.enc xs) e) L2) h
theorem api {g:LS->R (List D)}{k:List D->LS->R ω}(h:SK A (λ L=>(g L).bind λ d L1=>(asZg d L1).bind k) t F B X):SK A (λ L=>((g L).bind asZg).bind k) t F B X:=fO h
theorem amR (x:Tx):zsrc (Enc.enc x)=some ((signsT x).map Enc.enc):=by
 show some (x.s.cps.toList.map λ n=>PyData.str ⟨#[n]⟩)=_;unfold signsT;rw[Tx.s_list,List.map_map,List.map_map]
 rfl
theorem akt {α γ:Type}[Enc α][Enc γ](xs:List α)(ys:List γ):zipD (xs.map Enc.enc) (ys.map Enc.enc)=(xs.zip ys).map (Enc.enc:α×γ->D):=by
 unfold zipD;rw[List.zip_map,List.map_map]
 rfl
theorem aoR {α:Type}[Enc α]{xs:List α}{y:Tx}{k:List D->LS->R ω}(h:SK A (k ((xs.zip (signsT y)).map Enc.enc)) t F B X):SK A (λ L=>(asZg [Enc.enc xs,Enc.enc y] L).bind k) t F B X:=λ L hL=>by
 have h:=h L hL
 have e:asZg [Enc.enc xs,Enc.enc y] L=.ok (zipD (xs.map Enc.enc) ((signsT y).map Enc.enc)) L:=by
  show(match zsrc (Enc.enc xs),zsrc (Enc.enc y) with
   | some xs,some ys=>R.ok (zipD xs ys) L
   | _,_=>.stuck)=_
  rw[amR]
  rfl
 show SimR ((asZg [Enc.enc xs,Enc.enc y] L).bind k) t F B X;rw[e,akt];exact h
theorem aeR [Enc1 κ]{α:Type}[Enc α]{i:Nat}{d:Dt κ α}{ga gf:LS->R D}{k:D->LS->R ω}(h:A[i]?=some (kv d))(h2:SK A (λ L=>(ga L).bind λ d1 L1=>(gf L1).bind λ e L2=>(getX i d1 e L2).bind k) t F B X):SK A (λ L=>(gDGetX i ga gf L).bind k) t F B X:=λ L hL=>by
 have h2:=h2 L hL
 show SimR ((gDGetX i ga gf L).bind k) t F B X
 have e:gDGetX i ga gf L=(ga L).bind λ d L1=>(gf L1).bind λ e L2=>getX i d e L2:=by
  unfold gDGetX;rw[hL.2 i _ h]
 rw[e,aQ]
 have e2:∀ r:R D,(r.bind λ d1 L1=>((gf L1).bind λ e L2=>getX i d1 e L2).bind k)=r.bind λ d1 L1=>(gf L1).bind λ e L2=>(getX i d1 e L2).bind k:=λ r=>by
  cases r with
  | stuck=>rfl
  | err c L1=>rfl
  | ok d1 L1=>exact aQ ..
 rw[e2];exact h2
end
section
variable {ε β ω κ α:Type}{A:LS}{t:T ε β}{F:β->ω}{B:β->LS}{X:ε->LS}
theorem ah4 [DecidableEq κ][Enc κ][Enc1 κ][KD1 κ][Enc α]{i:Nat}{d:Dt κ α}{x:κ}{e:Option α}{k:D->LS->R ω}(h:A[i]?=some (kv d))(h2:SK A (k (Enc.enc ((dget d x).or e))) t F B X):SK A (λ L=>(getX i (Enc.enc x) (Enc.enc e) L).bind k) t F B X:=λ L hL=>by
 have h2:=h2 L hL
 show SimR ((match dictAt L[i]? (Enc.enc x) with
  | some r=>R.ok (r.getD (Enc.enc e)) L
  | none=>.stuck).bind k) t F B X
 rw[agU (hL.2 i _ h)]
 cases hd:dget d x with
 | none =>
  rw[hd]at h2;exact h2
 | some z =>
  rw[hd]at h2;exact h2
end
section
variable {ε α β ω:Type}{A:LS}{t:T ε β}{F:β->ω}{B:β->LS}{X:ε->LS}
end
end Ty
namespace VS
open PySem PySem.Spec
def T.lcMR {ε α β:Type}:List α->List β->(α->T ε (Option β))->T ε (List β)
 | [],acc,_=>.ok acc
 | x::xs,acc,f=>match f x with
  | .ok (some y)=>T.gd (acc.length < sizeLine) (T.lcMR xs (acc++[y]) f)
  | .ok none=>T.lcMR xs acc f
  | .er k z=>.er k z
  | .no=>.no
def T.lcsR {ε α β:Type}(xs:List α)(f:α->T ε (Option β)):T ε (List β):=T.lcMR xs [] f
def lcQR (vs:List Nat)(f:D->LS->Option LS)(gt:LS->R Bool)(ge:LS->R D)(ds:List D)(L1:LS):R S:=lcGoR vs f gt ge ds [] (wipeL L1 vs)
section
variable {ω α β γ ε:Type}{A:LS}{F:β->ω}{B:β->LS}{X:ε->LS}{t:T ε β}
theorem ah5 {vs:List Nat}{gi:LS->R (List D)}{f:D->LS->Option LS}{gt:LS->R Bool}{ge:LS->R D}{k:S->LS->R ω}(h:SK A (λ L=>(gi L).bind λ ds L1=>(lcQR vs f gt ge ds L1).bind k) t F B X):SK A (λ L=>(gLcR vs gi f gt ge L).bind k) t F B X:=fO h
theorem ah6 [Enc γ]{vs:List Nat}{f:D->LS->Option LS}{ge:LS->R D}{e:α->D}{A0:LS}{A1:α->LS}{Bv:LS}{Xe:ε->LS}{tb:α->T ε (Option γ)}(hf:∀ x,Tg A0 f (e x) (A1 x))
  (hb:∀ x,SK (A1 x) (lcBody gYes ge) (tb x) (λ p=>p.map Enc.enc) (λ _=>Bv) Xe) (hw:Mt A0 (wipeL Bv vs)) (hx:∀ z,Mt (X z) (wipeL (Xe z) vs)) :
  ∀ (xs:List α) (acc:List γ),SK A0 (lcGoR vs f gYes ge (xs.map e) (acc.map Enc.enc)) (T.lcMR xs acc tb) (λ p:List γ=>S.ol (p.map Enc.enc)) (λ _=>A0) X
 | [],acc=>λ L hL=>⟨L,rfl,hL⟩
 | x::xs,acc=>λ L hL=>by
  obtain⟨L1,h1,h2⟩:=hf x L hL
  have h3:=hb x L1 h2
  have ih:=ah6 hf hb hw hx xs
  rw[List.map_cons];unfold T.lcMR;unfold lcGoR;rw[h1]
  show SimR (match ge L1 with
     | .ok y L3=>if(acc.map Enc.enc).length < sizeLine then lcGoR vs f gYes ge (xs.map e) (acc.map Enc.enc++[y]) (wipeL L3 vs) else .stuck
     | .err k L3=>.err k (wipeL L3 vs)
     | .stuck=>.stuck) _ _ _ _
  have hl:lcBody gYes ge L1=(ge L1).bind λ y L2=>(R.ok (some y) L2:R (Option D)):=rfl
  rw[hl]at h3
  cases ht:tb x with
  | no=>trivial
  | er c z =>
   rw[ht]at h3;obtain⟨L3,h4,h5⟩:=h3
   cases hge:ge L1 with
   | stuck=>rw[hge]at h4;cases h4
   | ok y L4=>rw[hge]at h4;cases h4
   | err c' L4 =>
    rw[hge]at h4
    injection h4 with h6 h7
    subst h6 h7
    exact⟨_,rfl,(hx z).trans (h5.wipe vs)⟩
  | ok o =>
   rw[ht]at h3;obtain⟨L3,h4,h5⟩:=h3
   cases hge:ge L1 with
   | stuck=>rw[hge]at h4;cases h4
   | err c' L2=>rw[hge]at h4;cases h4
   | ok y L4 =>
    rw[hge]at h4
    injection h4 with h6 h7
    cases o with
    | none=>cases h6
    | some y' =>
     subst h7
     have hy:y=Enc.enc y':=Option.some.inj h6
     subst hy
     show SimR (if(acc.map Enc.enc).length < sizeLine then lcGoR vs f gYes ge (xs.map e) (acc.map Enc.enc++[Enc.enc y']) (wipeL L4 vs) else .stuck) (T.gd (acc.length < sizeLine) (T.lcMR xs (acc++[y']) tb)) _ _ _;unfold T.gd;rw[List.length_map]
     by_cases hs:acc.length < sizeLine
     ·rw[if_pos hs,if_pos hs]
      have:=ih (acc++[y']) _ (hw.trans (h5.wipe vs))
      rw[List.map_append]at this;exact this
     ·rw[if_neg hs,if_neg hs]
      trivial
theorem ah7 [Enc γ]{vs:List Nat}{f:D->LS->Option LS}{ge:LS->R D}{e:α->D}{xs:List α}{k:S->LS->R ω}(A0:LS)(A1:α->LS)(Bv:LS)(Xe:ε->LS){tb:α->T ε (Option γ)}{t':List γ->T ε β}(h0:Mt A0 (wipeL A vs))(hf:∀ x,Tg A0 f (e x) (A1 x))
  (hb:∀ x,SK (A1 x) (lcBody gYes ge) (tb x) (λ p=>p.map Enc.enc) (λ _=>Bv) Xe) (hw:Mt A0 (wipeL Bv vs)) (hx:∀ z,Mt (X z) (wipeL (Xe z) vs)) (h2:∀ ys,SK A0 (k (.ol (ys.map Enc.enc))) (t' ys) F B X) :
  SK A (λ L=>(lcQR vs f gYes ge (xs.map e) L).bind k) ((T.lcsR xs tb).bind t') F B X:=λ L hL=>by
 have h1:=ah6 (X:=X) hf hb hw hx xs [] (wipeL L vs) (h0.trans (hL.wipe vs))
 show SimR ((lcGoR vs f gYes ge (xs.map e) [] (wipeL L vs)).bind k) ((T.lcMR xs [] tb).bind t') F B X
 cases ht:(T.lcMR xs [] tb) with
 | no=>trivial
 | er c z =>
  rw[ht]at h1;obtain⟨L3,h4,h5⟩:=h1;rw[List.map_nil]at h4;rw[h4];exact⟨_,rfl,h5⟩
 | ok ys =>
  rw[ht]at h1;obtain⟨L3,h4,h5⟩:=h1;rw[List.map_nil]at h4;rw[h4];exact h2 ys _ h5
theorem aku {f:α->T ε (Option β)}{g:α->β}{xs:List α}(hs:xs.length<=1000000)(h:∀ x∈xs,f x=.ok (some (g x))):T.lcsR xs f=.ok (xs.map g):=by
 have key:∀ (xs:List α) (acc:List β),acc.length+xs.length<=1000000->(∀ x∈xs,f x=.ok (some (g x)))->T.lcMR xs acc f=.ok (acc++xs.map g):=by
  intro xs
  induction xs with
  | nil=>intro acc _ _;simp[T.lcMR]
  | cons x xs ih =>
   intro acc hl hh;rw[List.length_cons]at hl;unfold T.lcMR;rw[hh x List.mem_cons_self];show T.gd (acc.length < sizeLine) (T.lcMR xs (acc++[g x]) f)=_;rw[T.gd_of (by have:sizeLine=16777216:=sizeLine_eq;omega),ih _ (by rw[List.length_append];simp;omega) (λ y hy=>hh y (List.mem_cons_of_mem _ hy))]
   simp
 have:=key xs [] (by simpa using hs) h
 simpa [T.lcsR] using this
end
end VS
noncomputable section
namespace Ty
open PySem VS Lw L2
def cI (word:Tx):T Empty ((Option Tx)) :=
 .ok ((dget (([((tx "come"),((tx "abb"):Tx)),((tx "rise"),((tx "abb"):Tx)),((tx "die"),((tx "aba"):Tx)),((tx "penance"),((tx "a"):Tx)),((tx "bring"),((tx "ab"):Tx)),((tx "give"),((tx "baab"):Tx))]:Dt Tx Tx):(Dt Tx Tx)) word).or ((dget (([((tx "pay"),((tx "aabb"):Tx)),((tx "claim"),((tx "abbb+"):Tx)),((tx "wergild"),((tx "aabbb+"):Tx)),((tx "accuse"),((tx "babb+"):Tx))]:Dt Tx Tx):(Dt Tx Tx)) word).or (none:(Option Tx))))
theorem ab8 (word:Tx):SK [dv word] Lw.lB (cI word) (λ r=>(S.d (Enc.enc r))) (λ r=>[none]) XV:=by
 unfold Lw.lB Lw.vz cI;refine rQ (X':=XV) ?_ cO;show SK [dv word,none,none] _ _ _ _ _;refine dY ?_;refine s_asg ?_;refine aX (abv (l:=([((tx "come"),((tx "abb"):Tx)),((tx "rise"),((tx "abb"):Tx)),((tx "die"),((tx "aba"):Tx)),((tx "penance"),((tx "a"):Tx)),((tx "bring"),((tx "ab"):Tx)),((tx "give"),((tx "baab"):Tx))]:Dt Tx Tx)) (jj (aV "come") (aV "abb") (jj (aV "rise") (aV "abb") (jj (aV "die") (aV "aba") (jj (aV "penance") (aV "a") (jj (aV "bring") (aV "ab") (jj (aV "give") (aV "baab") aeL)))))) (by decide) (by decide)) ?_;refine jo rfl ?_;refine aZ ?_;refine dY ?_;refine s_asg ?_;refine aX (abv (l:=([((tx "pay"),((tx "aabb"):Tx)),((tx "claim"),((tx "abbb+"):Tx)),((tx "wergild"),((tx "aabbb+"):Tx)),((tx "accuse"),((tx "babb+"):Tx))]:Dt Tx Tx)) (jj (aV "pay") (aV "aabb") (jj (aV "claim") (aV "abbb+") (jj (aV "wergild") (aV "aabbb+") (jj (aV "accuse") (aV "babb+") aeL)))) (by decide) (by decide)) ?_;refine jo rfl ?_;refine aZ ?_;refine s_ret ?_;refine e_d ?_;refine aeR (d:=(([((tx "come"),((tx "abb"):Tx)),((tx "rise"),((tx "abb"):Tx)),((tx "die"),((tx "aba"):Tx)),((tx "penance"),((tx "a"):Tx)),((tx "bring"),((tx "ab"):Tx)),((tx "give"),((tx "baab"):Tx))]:Dt Tx Tx):(Dt Tx Tx))) (by rfl) ?_;refine aX (bA (by rfl)) ?_;refine aeR (d:=(([((tx "pay"),((tx "aabb"):Tx)),((tx "claim"),((tx "abbb+"):Tx)),((tx "wergild"),((tx "aabbb+"):Tx)),((tx "accuse"),((tx "babb+"):Tx))]:Dt Tx Tx):(Dt Tx Tx))) (by rfl) ?_;refine aX (bA (by rfl)) ?_;refine aX jr ?_;refine ah4 (d:=(([((tx "pay"),((tx "aabb"):Tx)),((tx "claim"),((tx "abbb+"):Tx)),((tx "wergild"),((tx "aabbb+"):Tx)),((tx "accuse"),((tx "babb+"):Tx))]:Dt Tx Tx):(Dt Tx Tx))) (x:=word) (e:=(none:(Option Tx))) (by rfl) ?_;refine ah4 (d:=(([((tx "come"),((tx "abb"):Tx)),((tx "rise"),((tx "abb"):Tx)),((tx "die"),((tx "aba"):Tx)),((tx "penance"),((tx "a"):Tx)),((tx "bring"),((tx "ab"):Tx)),((tx "give"),((tx "baab"):Tx))]:Dt Tx Tx):(Dt Tx Tx))) (x:=word) (e:=((dget (([((tx "pay"),((tx "aabb"):Tx)),((tx "claim"),((tx "abbb+"):Tx)),((tx "wergild"),((tx "aabbb+"):Tx)),((tx "accuse"),((tx "babb+"):Tx))]:Dt Tx Tx):(Dt Tx Tx)) word).or (none:(Option Tx)))) (by rfl) ?_;exact yG rfl (dH aO)
def dU (src:SrcT):T Empty (Int×SrcT) :=
 (jO src ((4:Int))).bind λ(r1,src2) =>
 if(decide (r1=(0:Int)))=true then((jO src2 ((6:Int))).bind λ(r3,src4) =>
 (T.ofO (atI (([(0:Int),(9:Int),(10:Int),(999999999:Int),(100000000:Int),(99:Int)]:List Int):(List Int)) r3)).bind λ x5 =>
 .ok (x5,src4)) else(if(decide (r1=(1:Int)))=true then((jO src2 ((1000000000:Int))).bind λ(r6,src7) =>
 .ok (r6,src7)) else((jO src2 ((30:Int))).bind λ(r8,src9) =>
 .ok (r8,src9)))
theorem uF (src:SrcT):SK [some src.1] Lw.fL (dU src) (λ r=>(S.d (Enc.enc r.1))) (λ r=>[some r.2.1]) XV:=by
 unfold Lw.fL Lw.nA dU;refine rQ (X':=XV) ?_ cO;show SK [some src.1,none] _ _ _ _ _;refine dY ?_;refine s_asg ?_;refine bL ?_;refine a_r (by rfl) ?_;refine a_d ?_;refine aX (jr (d:=Enc.enc (4:Int))) ?_;refine fP ?_;refine bM (by show List.Nodup [0];decide) rfl (oN src ((4:Int))) cO ?_;rintro⟨r1,src2⟩;show SK [some src2.1,none] _ _ _ _ _;refine jo rfl ?_;refine aZ ?_;refine dY ?_;refine s_if (x:=(decide (r1=(0:Int)))) (ajQ (aal (z:=(Enc.enc ((decide (r1=(0:Int))):Bool))) (aW (by rfl)) (jr (d:=Enc.enc (0:Int))) (vC r1 ((0:Int))))) ?_ ?_
 ·refine s_ret ?_;refine e_d ?_;refine rF ?_;refine aX (qm (t8 (bO (jr (d:=Enc.enc (0:Int))) (bO (jr (d:=Enc.enc (9:Int))) (bO (jr (d:=Enc.enc (10:Int))) (bO (jr (d:=Enc.enc (999999999:Int))) (bO (jr (d:=Enc.enc (100000000:Int))) (bO (jr (d:=Enc.enc (99:Int))) lE)))))) (ln (n:=6) rfl))) ?_;refine j6 ?_;refine bL ?_;refine a_r (by rfl) ?_;refine a_d ?_;refine aX (jr (d:=Enc.enc (6:Int))) ?_;refine fP ?_;refine bM (by show List.Nodup [0];decide) rfl (oN src2 ((6:Int))) cO ?_;rintro⟨r3,src4⟩;show SK [some src4.1,dv r1] _ _ _ _ _;refine fW ?_;refine jX (p:=atI (([(0:Int),(9:Int),(10:Int),(999999999:Int),(100000000:Int),(99:Int)]:List Int):(List Int)) r3) (f:=Enc.enc) (ad5 (([(0:Int),(9:Int),(10:Int),(999999999:Int),(100000000:Int),(99:Int)]:List Int):(List Int)) r3) (λ x5=>?_);exact yG rfl (fY aO)
 refine lD ?_;refine aZ ?_;refine dY ?_;refine s_if (x:=(decide (r1=(1:Int)))) (ajQ (aal (z:=(Enc.enc ((decide (r1=(1:Int))):Bool))) (aW (by rfl)) (jr (d:=Enc.enc (1:Int))) (vC r1 ((1:Int))))) ?_ ?_
 ·refine s_ret ?_;refine bL ?_;refine a_r (by rfl) ?_;refine a_d ?_;refine aX (jr (d:=Enc.enc (1000000000:Int))) ?_;refine fP ?_;refine bM (by show List.Nodup [0];decide) rfl (oN src2 ((1000000000:Int))) cO ?_;rintro⟨r6,src7⟩;show SK [some src7.1,dv r1] _ _ _ _ _;exact yG rfl (fY aO)
 refine lD ?_;refine aZ ?_;refine s_ret ?_;refine bL ?_;refine a_r (by rfl) ?_;refine a_d ?_;refine aX (jr (d:=Enc.enc (30:Int))) ?_;refine fP ?_;refine bM (by show List.Nodup [0];decide) rfl (oN src2 ((30:Int))) cO ?_;rintro⟨r8,src9⟩;show SK [some src9.1,dv r1] _ _ _ _ _;exact yG rfl (fY aO)
def jx (src:SrcT)(names:(List Tx)):T Empty ((List Tx)×SrcT) :=
 (jO src ((4:Int))).bind λ(r1,src2) =>
 (T.ofO (atI (([(3:Int),(3:Int),(3:Int),(16:Int)]:List Int):(List Int)) r1)).bind λ x3 =>
 (jO src2 x3).bind λ(r4,src5) =>
 T.gd (inR r4) <|
 (T.lc (rangeT (Int.toNat r4)) src5 (λ(i6:Int) src7=>(((jO src7 (((List.length names:Nat):Int):Int)).bind λ(r9,src10) =>
 (T.ofO (atI names r9)).bind λ x11 =>
 .ok ((some x11),src10)):T Empty (Option Tx×(SrcT))))).bind λ(l8,src7) =>
 .ok (l8,src7)
theorem yW (src:SrcT)(names:(List Tx)):SK [some src.1,dv names] Lw.lC (jx src names) (λ r=>(S.ol (List.map Enc.enc r.1))) (λ r=>[some r.2.1,dv names]) XV:=by
 unfold Lw.lC Lw.yD jx;refine rQ (X':=XV) ?_ cO;show SK [some src.1,dv names,none] _ _ _ _ _;refine s_ret ?_;refine ajT ?_;refine ahT ?_;refine yE ?_;refine j6 ?_;refine bL ?_;refine a_r (by rfl) ?_;refine a_d ?_;refine rF ?_;refine aX (qm (t8 (bO (jr (d:=Enc.enc (3:Int))) (bO (jr (d:=Enc.enc (3:Int))) (bO (jr (d:=Enc.enc (3:Int))) (bO (jr (d:=Enc.enc (16:Int))) lE)))) (ln (n:=4) rfl))) ?_;refine j6 ?_;refine bL ?_;refine a_r (by rfl) ?_;refine a_d ?_;refine aX (jr (d:=Enc.enc (4:Int))) ?_;refine fP ?_;refine bM (by show List.Nodup [0];decide) rfl (oN src ((4:Int))) cO ?_;rintro⟨r1,src2⟩;show SK [some src2.1,dv names,none] _ _ _ _ _;refine fW ?_;refine jX (p:=atI (([(3:Int),(3:Int),(3:Int),(16:Int)]:List Int):(List Int)) r1) (f:=Enc.enc) (ad5 (([(3:Int),(3:Int),(3:Int),(16:Int)]:List Int):(List Int)) r1) (λ x3=>?_);refine fP ?_;refine bM (by show List.Nodup [0];decide) rfl (oN src2 x3) cO ?_;rintro⟨r4,src5⟩;show SK [some src5.1,dv names,none] _ _ _ _ _;refine fW ?_;refine aX lE ?_;refine ahU (n:=r4) ?_;refine ao4 (e:=Enc.enc) (ε':=Empty) (xs:=((rangeT (Int.toNat r4)):(List Int))) (v:=src5) (λ v=>[some v.1,dv names,none]) (λ i6 v=>[some v.1,dv names,dv i6]) (λ v=>[some v.1,dv names,none]) XV (fY (fY (dH aO))) (λ i6 v=>jA) (λ i6 v=>?_) (λ v=>(fY (fY (dH aO)))) (λ l8 v=>?_)
 ·revert v;intro src7;show SK [some src7.1,dv names,dv i6] _ _ _ _ _;refine ajL ?_;refine amv ?_;refine aX yH ?_;refine aeb ?_;refine qp (by rfl) ?_;refine j6 ?_;refine bL ?_;refine a_r (by rfl) ?_;refine a_d ?_;refine aX (wF (z:=(Enc.enc ((List.length names:Nat):Int))) (aW (by rfl)) (agQ _)) ?_;refine fP ?_;refine bM (by show List.Nodup [0];decide) rfl (oN src7 (((List.length names:Nat):Int))) cO ?_;rintro⟨r9,src10⟩;show SK [some src10.1,dv names,dv i6] _ _ _ _ _;refine fW ?_;refine aX (aW (by rfl)) ?_;refine jX (p:=atI names r9) (f:=Enc.enc) (ad5 names r9) (λ x11=>?_);exact tW rfl (fY (fY (dH aO)))
 revert v;intro src7;show SK [some src7.1,dv names,none] _ _ _ _ _;exact yG rfl (fY (fY aO))
def gW (src:SrcT)(names:(List Tx)):T Empty (DeedT×SrcT) :=
 (jO src ((10:Int))).bind λ(r1,src2) =>
 (T.ofO (atI (([(tx "come"),(tx "rise"),(tx "die"),(tx "penance"),(tx "bring"),(tx "give"),(tx "pay"),(tx "claim"),(tx "wergild"),(tx "accuse")]:List Tx):(List Tx)) r1)).bind λ x3 =>
 (cI x3).bind λ r4 =>
 (T.ofO r4).bind λ u5 =>
 (T.forM (signsT u5) ((src2,([(Un.t x3)]:List Un)):SrcT×(List Un)) (λ(i6:Tx) (src9,parts10)=>((if(decide (i6=(tx "a")))=true then((jO src9 (((List.length names:Nat):Int):Int)).bind λ(r11,src12) =>
 (T.ofO (atI names r11)).bind λ x13 =>
 T.gd (parts10.length < sizeLine) <|
 .ok (src12,(parts10++[(Un.t x13)]))) else(if(decide (i6=(tx "b")))=true then((dU src9).bind λ(r14,src15) =>
 T.gd (parts10.length < sizeLine) <|
 .ok (src15,(parts10++[(Un.i r14)]))) else((jx src9 names).bind λ(r16,src17) =>
 (jx src17 names).bind λ(r18,src19) =>
 (T.ofO (catT parts10 (List.map Un.l (([r16,r18]:List (List Tx)):(List (List Tx)))))).bind λ x20 =>
 .ok (src19,x20)))):T Empty (SrcT×(List Un))))).bind λ(src9,parts10) =>
 .ok ((DeedT.mk parts10),src9)
theorem uV (src:SrcT)(names:(List Tx)):SK [some src.1,dv names] Lw.gJ (gW src names) (λ r=>(S.d (Enc.enc r.1))) (λ r=>[some r.2.1,dv names]) XV:=by
 unfold Lw.gJ Lw.oJ gW;refine rQ (X':=XV) ?_ cO;show SK [some src.1,dv names,none,none,none,none] _ _ _ _ _;refine dY ?_;refine s_asg ?_;refine aX (t8 (bO (aV "come") (bO (aV "rise") (bO (aV "die") (bO (aV "penance") (bO (aV "bring") (bO (aV "give") (bO (aV "pay") (bO (aV "claim") (bO (aV "wergild") (bO (aV "accuse") lE)))))))))) (ln (n:=10) rfl)) ?_;refine jo rfl ?_;refine aZ ?_;refine dY ?_;refine s_asg ?_;refine e_d ?_;refine qp (by rfl) ?_;refine j6 ?_;refine bL ?_;refine a_r (by rfl) ?_;refine a_d ?_;refine aX (jr (d:=Enc.enc (10:Int))) ?_;refine fP ?_;refine bM (by show List.Nodup [0];decide) rfl (oN src ((10:Int))) cO ?_;rintro⟨r1,src2⟩;show SK [some src2.1,dv names,lv (([(tx "come"),(tx "rise"),(tx "die"),(tx "penance"),(tx "bring"),(tx "give"),(tx "pay"),(tx "claim"),(tx "wergild"),(tx "accuse")]:List Tx):(List Tx)),none,none,none] _ _ _ _ _;refine fW ?_;refine aX (jh (by rfl)) ?_;refine jX (p:=atI (([(tx "come"),(tx "rise"),(tx "die"),(tx "penance"),(tx "bring"),(tx "give"),(tx "pay"),(tx "claim"),(tx "wergild"),(tx "accuse")]:List Tx):(List Tx)) r1) (f:=Enc.enc) (ad5 (([(tx "come"),(tx "rise"),(tx "die"),(tx "penance"),(tx "bring"),(tx "give"),(tx "pay"),(tx "claim"),(tx "wergild"),(tx "accuse")]:List Tx):(List Tx)) r1) (λ x3=>?_);refine jo rfl ?_;refine aZ ?_;refine dY ?_;refine s_asg ?_;refine aX (t8 (bO (bA (by rfl)) lE) (ln (n:=1) rfl)) ?_;refine jo (A':=[some src2.1,dv names,lv (([(tx "come"),(tx "rise"),(tx "die"),(tx "penance"),(tx "bring"),(tx "give"),(tx "pay"),(tx "claim"),(tx "wergild"),(tx "accuse")]:List Tx):(List Tx)),dv x3,lv (([(Un.t x3)]:List Un):(List Un)),none]) rfl ?_;refine aZ ?_;refine dY ?_;refine vD ?_;refine nM ?_;refine j6 ?_;refine bL ?_;refine a_d ?_;refine aX (bA (by rfl)) ?_;refine fP ?_;refine bM List.nodup_nil rfl (ab8 x3) cO ?_;rintro r4;show SK [some src2.1,dv names,lv (([(tx "come"),(tx "rise"),(tx "die"),(tx "penance"),(tx "bring"),(tx "give"),(tx "pay"),(tx "claim"),(tx "wergild"),(tx "accuse")]:List Tx):(List Tx)),dv x3,lv (([(Un.t x3)]:List Un):(List Un)),none] _ _ _ _ _;refine fW ?_;rcases hhu5:r4 with _ | u5;exact tX;refine vK ?_;refine aba (x:=u5) ?_
 refine aea (e:=Enc.enc) (xs:=((signsT u5):(List Tx))) (v:=(src2,([(Un.t x3)]:List Un))) (λ v=>[some v.1.1,dv names,lv (([(tx "come"),(tx "rise"),(tx "die"),(tx "penance"),(tx "bring"),(tx "give"),(tx "pay"),(tx "claim"),(tx "wergild"),(tx "accuse")]:List Tx):(List Tx)),dv x3,lv v.2,none]) (λ i6 v=>[some v.1.1,dv names,lv (([(tx "come"),(tx "rise"),(tx "die"),(tx "penance"),(tx "bring"),(tx "give"),(tx "pay"),(tx "claim"),(tx "wergild"),(tx "accuse")]:List Tx):(List Tx)),dv x3,lv v.2,dv i6]) (qO (fY (dH aO))) (λ i6 v=>jA) (λ i6 v=>?_) (λ v=>?_)
 ·obtain⟨src9,parts10⟩:=v;show SK [some src9.1,dv names,lv (([(tx "come"),(tx "rise"),(tx "die"),(tx "penance"),(tx "bring"),(tx "give"),(tx "pay"),(tx "claim"),(tx "wergild"),(tx "accuse")]:List Tx):(List Tx)),dv x3,lv parts10,dv i6] _ _ _ _ _;refine s_if (x:=(decide (i6=(tx "a")))) (ajQ (aal (z:=(Enc.enc ((decide (i6=(tx "a"))):Bool))) (aW (by rfl)) (aV "a") (vC i6 ((tx "a"):Tx)))) ?_ ?_
  ·refine s_drop ?_;refine agS (by rfl) ?_;refine qp (by rfl) ?_;refine j6 ?_;refine bL ?_;refine a_r (by rfl) ?_;refine a_d ?_;refine aX (wF (z:=(Enc.enc ((List.length names:Nat):Int))) (aW (by rfl)) (agQ _)) ?_;refine fP ?_;refine bM (by show List.Nodup [0];decide) rfl (oN src9 (((List.length names:Nat):Int))) cO ?_;rintro⟨r11,src12⟩;show SK [some src12.1,dv names,lv (([(tx "come"),(tx "rise"),(tx "die"),(tx "penance"),(tx "bring"),(tx "give"),(tx "pay"),(tx "claim"),(tx "wergild"),(tx "accuse")]:List Tx):(List Tx)),dv x3,lv parts10,dv i6] _ _ _ _ _;refine fW ?_;refine aX (aW (by rfl)) ?_;refine jX (p:=atI names r11) (f:=Enc.enc) (ad5 names r11) (λ x13=>?_);refine agT (xs:=parts10) (x:=((Un.t x13):Un)) (by rfl) rfl ?_;exact tW rfl (qO (fY (dH aO)))
  refine s_if (x:=(decide (i6=(tx "b")))) (ajQ (aal (z:=(Enc.enc ((decide (i6=(tx "b"))):Bool))) (aW (by rfl)) (aV "b") (vC i6 ((tx "b"):Tx)))) ?_ ?_
  ·refine s_drop ?_;refine agS (by rfl) ?_;refine j6 ?_;refine bL ?_;refine a_r (by rfl) ?_;refine fP ?_;refine bM (by show List.Nodup [0];decide) rfl (uF src9) cO ?_;rintro⟨r14,src15⟩;show SK [some src15.1,dv names,lv (([(tx "come"),(tx "rise"),(tx "die"),(tx "penance"),(tx "bring"),(tx "give"),(tx "pay"),(tx "claim"),(tx "wergild"),(tx "accuse")]:List Tx):(List Tx)),dv x3,lv parts10,dv i6] _ _ _ _ _;refine fW ?_;refine agT (xs:=parts10) (x:=((Un.i r14):Un)) (by rfl) rfl ?_;exact tW rfl (qO (fY (dH aO)))
  refine s_asg ?_;refine rF ?_;refine amn (by rfl) ?_;refine j6 ?_;refine ajK ?_;refine yE ?_;refine j6 ?_;refine bL ?_;refine a_r (by rfl) ?_;refine a_r (by rfl) ?_;refine fP ?_;refine bM (by show List.Nodup [0,1];decide) rfl (yW src9 names) cO ?_;rintro⟨r16,src17⟩;show SK [some src17.1,dv names,lv (([(tx "come"),(tx "rise"),(tx "die"),(tx "penance"),(tx "bring"),(tx "give"),(tx "pay"),(tx "claim"),(tx "wergild"),(tx "accuse")]:List Tx):(List Tx)),dv x3,dv parts10,dv i6] _ _ _ _ _;refine fW ?_;refine yE ?_;refine j6 ?_;refine bL ?_;refine a_r (by rfl) ?_;refine a_r (by rfl) ?_;refine fP ?_;refine bM (by show List.Nodup [0,1];decide) rfl (yW src17 names) cO ?_;rintro⟨r18,src19⟩;show SK [some src19.1,dv names,lv (([(tx "come"),(tx "rise"),(tx "die"),(tx "penance"),(tx "bring"),(tx "give"),(tx "pay"),(tx "claim"),(tx "wergild"),(tx "accuse")]:List Tx):(List Tx)),dv x3,dv parts10,dv i6] _ _ _ _ _;refine fW ?_;refine aX lE ?_;refine adY (lnS (n:=2) rfl) ?_;refine fW ?_;refine fW ?_;refine jX (p:=catT parts10 (List.map Un.l (([r16,r18]:List (List Tx)):(List (List Tx))))) (f:=(λ z=>S.ol (List.map Enc.enc z))) (amQ parts10 (([r16,r18]:List (List Tx)):(List (List Tx)))) (λ x20=>?_);refine jo rfl ?_;exact tW rfl (qO (fY (dH aO)))
 obtain⟨src9,parts10⟩:=v;show SK [some src9.1,dv names,lv (([(tx "come"),(tx "rise"),(tx "die"),(tx "penance"),(tx "bring"),(tx "give"),(tx "pay"),(tx "claim"),(tx "wergild"),(tx "accuse")]:List Tx):(List Tx)),dv x3,lv parts10,none] _ _ _ _ _;refine aZ ?_;refine s_ret ?_;refine aX (agR (wF (z:=(Enc.enc (DeedT.mk parts10))) (jh (by rfl)) (ah3 _))) ?_;exact yG rfl (fY (fY aO))
def jW (deed:DeedT):T Empty (Tx) :=
 (T.ofO (atI deed.ps (0:Int))).bind λ x1 =>
 (T.ofO (Un.toT x1)).bind λ u2 =>
 (T.ofO (cutU deed (some (1:Int)) none)).bind λ w3 =>
 (T.forM w3.ps ((u2,(tx " +")):Tx×Tx) (λ(i4:Un) (text7,sign8)=>((if(Un.isL i4)=true then((T.ofO (catS text7 sign8)).bind λ x9 =>
 (T.ofO (Un.toL i4)).bind λ u10 =>
 (T.forM u10 (x9:Tx) (λ(i11:Tx) text13=>(((T.ofO (catS text13 (tx " "))).bind λ x14 =>
 (T.ofO (catS x14 i11)).bind λ x15 =>
 .ok x15):T Empty (Tx)))).bind λ text13 =>
 .ok (text13,(tx " -"))) else((T.ofO (catS text7 (tx " "))).bind λ x16 =>
 (T.ofO (strU i4)).bind λ x17 =>
 (T.ofO (catS x16 x17)).bind λ x18 =>
 .ok (x18,sign8))):T Empty (Tx×Tx)))).bind λ(text7,sign8) =>
 .ok text7
theorem aaC (deed:DeedT):SK [dv deed] Lw.jM (jW deed) (λ r=>(S.d (Enc.enc r))) (λ r=>[none]) XV:=by
 unfold Lw.jM Lw.tU jW;refine rQ (X':=XV) ?_ cO;show SK [dv deed,none,none,none,none] _ _ _ _ _;refine dY ?_;refine s_asg ?_;refine e_d ?_;refine qp (by rfl) ?_;refine aX (jr (d:=Enc.enc (0:Int))) ?_;refine aX (aW (by rfl)) ?_;refine jX (p:=atI deed.ps (0:Int)) (f:=Enc.enc) (ag7 deed (0:Int)) (λ x1=>?_);rcases hhu2:x1 with u2 | u2 | u2 | _;exact tX;rotate_left;exact tX;exact tX;refine vK ?_;refine jo rfl ?_;refine aZ ?_;refine dY ?_;refine s_asg ?_;refine aX (agR (aV " +")) ?_;refine jo rfl ?_;refine aZ ?_;refine dY ?_;refine vD ?_;refine nM ?_;refine j6 ?_;refine ao3 ?_;refine aX (aW (by rfl)) ?_;refine aX (wG (jr (d:=Enc.enc (1:Int)))) ?_;refine aX ad7 ?_;refine jX (p:=cutU deed (some (1:Int)) none) (f:=λ z=>S.d (Enc.enc z)) (ah0 _ _ _) (λ w3=>?_);refine fW ?_;refine fW ?_;refine aea (e:=Enc.enc) (xs:=(w3.ps:(List Un))) (v:=(u2,(tx " +"))) (λ v=>[dv deed,dv v.1,dv v.2,none,none]) (λ i4 v=>[dv deed,dv v.1,dv v.2,dv i4,none]) (jN (dH aO)) (λ i4 v=>jA) (λ i4 v=>?_) (λ v=>?_)
 ·obtain⟨text7,sign8⟩:=v;show SK [dv deed,dv text7,dv sign8,dv i4,none] _ _ _ _ _;refine s_if (x:=(Un.isL i4)) (ajQ (akj (aW (by rfl)))) ?_ ?_
  ·refine dY ?_;refine s_asg ?_;refine rF ?_;refine aX (bA (by rfl)) ?_;refine aX (bA (by rfl)) ?_;refine jX (p:=catS text7 sign8) (f:=(λ z=>S.d (Enc.enc z))) (cat_t text7 sign8) (λ x9=>?_);refine jo rfl ?_;refine aZ ?_;refine dY ?_;refine s_asg ?_;refine aX (agR (aV " -")) ?_;refine jo rfl ?_;refine aZ ?_;refine vD ?_;refine nM ?_;refine aX (bA (by rfl)) ?_;rcases hhu10:i4 with u10 | u10 | u10 | _;exact tX;exact tX;rotate_left;exact tX;show SK [dv deed,dv x9,dv ((tx " -"):Tx),dv u10,none] _ _ _ _ _;refine vK ?_;refine fW ?_;refine aea (e:=Enc.enc) (xs:=u10) (v:=x9) (λ v=>[dv deed,dv v,dv ((tx " -"):Tx),dv u10,none]) (λ i11 v=>[dv deed,dv v,dv ((tx " -"):Tx),dv u10,dv i11]) (qO (dH aO)) (λ i11 v=>jA) (λ i11 v=>?_) (λ v=>?_)
   ·revert v;intro text13;show SK [dv deed,dv text13,dv ((tx " -"):Tx),dv u10,dv i11] _ _ _ _ _;refine s_asg ?_;refine rF ?_;refine j6 ?_;refine rF ?_;refine aX (bA (by rfl)) ?_;refine aX (aV " ") ?_;refine jX (p:=catS text13 (tx " ")) (f:=(λ z=>S.d (Enc.enc z))) (cat_t text13 (tx " ")) (λ x14=>?_);refine fW ?_;refine aX (bA (by rfl)) ?_;refine jX (p:=catS x14 i11) (f:=(λ z=>S.d (Enc.enc z))) (cat_t x14 i11) (λ x15=>?_);refine jo rfl ?_;exact tW rfl (qO (dH aO))
   revert v;intro text13;show SK [dv deed,dv text13,dv ((tx " -"):Tx),dv u10,none] _ _ _ _ _;exact tW rfl (jN (dH aO))
  refine s_asg ?_;refine rF ?_;refine j6 ?_;refine rF ?_;refine aX (bA (by rfl)) ?_;refine aX (aV " ") ?_;refine jX (p:=catS text7 (tx " ")) (f:=(λ z=>S.d (Enc.enc z))) (cat_t text7 (tx " ")) (λ x16=>?_);refine fW ?_;refine acl ?_;refine aX (aW (by rfl)) ?_;refine jX (p:=strU i4) (f:=Enc.enc) (akq _) (λ x17=>?_);refine jX (p:=catS x16 x17) (f:=(λ z=>S.d (Enc.enc z))) (cat_t x16 x17) (λ x18=>?_);refine jo rfl ?_;exact tW rfl (jN (dH aO))
 obtain⟨text7,sign8⟩:=v;show SK [dv deed,dv text7,dv sign8,none,none] _ _ _ _ _;refine aZ ?_;refine s_ret ?_;refine yF (by rfl) (by intro _ h;cases h) ?_;exact yG rfl (dH aO)
def jk (word:Tx):T Unit (Tx) :=
 (T.up (lF word)).bind λ r1 =>
 if(!r1)=true then(.er 20 ()) else(.ok word)
def eY (word:Tx):T Unit (Int) :=
 (T.ofO (lenT word)).bind λ x1 =>
 if(decide (x1 < (1:Int)))=true then(.er 20 ()) else((T.ofO (lenT word)).bind λ x2 =>
 if(decide ((9:Int) < x2))=true then(.er 20 ()) else((((T.ofO (txAt word (0:Int))).bind λ x4 =>
 if(decide (x4=(tx "0")))=true then((T.ofO (lenT word)).bind λ x5 =>
 .ok (decide ((1:Int) < x5))) else(.ok false):T Unit (Bool))).bind λ b3 =>
 if b3=true then(.er 20 ()) else((T.forM (signsT word) (():Unit) (λ(i6:Tx) _=>(((T.ofO (ninTx i6 (tx "0123456789"))).bind λ x7 =>
 if x7=true then(.er 20 ()) else(.ok ())):T Unit (Unit)))).bind λ _ =>
 (T.ofO (intT word)).bind λ x8 =>
 .ok x8)))
end Ty
namespace Ty
open PySem VS L2
def nmB (w:Tx):Bool:=Lw.isN (w.cs.map (·.val))
def digB (c:Nat):Bool:=decide (48<=c/\c<=57)
def zro:Fin 1114112:=⟨48,by decide⟩
def nuB (w:Tx):Bool:=decide (1<=w.cs.length/\w.cs.length<=9)&&(!(decide (w.cs[0]?=some zro)&&decide (1 < w.cs.length))&&w.cs.all λ c=>digB c.val)
def nuV (w:Tx):Int:=(intT w).getD 0
theorem digits_of {w:Tx}(h:(w.cs.all λ c=>digB c.val)=true):PySem.NumText.AllDigits w.s.cps.toList:=λ c hc=>by
 rw[Tx.s_list]at hc
 obtain⟨d,hd,rfl⟩:=List.mem_map.mp hc
 exact of_decide_eq_true (List.all_eq_true.mp h d hd)
theorem akv {w:Tx}(h:nuB w=true):intT w=some (nuV w):=by
 unfold nuB at h
 simp only[Bool.and_eq_true,decide_eq_true_eq]at h
 obtain⟨⟨h1,h2⟩,_,h3⟩:=h
 have e:PySem.intText? w.s=some ((PySem.NumText.digitsVal w.s.cps.toList:Nat):Int):=PySem.intText_digits (digits_of h3) (by
  rw[Tx.s_list];intro q
  have:=congrArg List.length q
  rw[List.length_map,List.length_nil]at this
  omega) (by rw[Tx.s_len];omega)
 have:intT w=some ((PySem.NumText.digitsVal w.s.cps.toList:Nat):Int):=by
  unfold intT;rw[if_pos (by rw[Tx.s_len];omega),e]
 unfold nuV;rw[this]
 rfl
theorem aaD {w:Tx}(h:w.cs.length<=100000):lenT w=some (w.cs.length:Int):=if_pos (sz _ (by omega))
theorem aeS (x:Tx)(p:Fin 1114112->Bool)(q:Tx->Bool)(h:∀ c,q ⟨[c]⟩=!p c):(signsT x).any q=!x.cs.all p:=by
 unfold signsT;rw[List.any_map]
 induction x.cs with
 | nil=>rfl
 | cons c cs ih =>
  rw[List.any_cons,List.all_cons,ih];show(q ⟨[c]⟩||_)=_;rw[h]
  cases p c<;>simp
theorem amS {w:Tx}{c:Fin 1114112}{cs:List (Fin 1114112)}(h:w.cs=c::cs)(hl:w.cs.length<=100000):txAt w (0:Int)=some ⟨[c]⟩:=by
 unfold txAt;rw[if_pos (sz _ (by omega)),show(0:Int)=((0:Nat):Int) from rfl,jY,h]
 rfl
theorem is0 (c:Fin 1114112):decide ((⟨[c]⟩:Tx)=tx "0")=decide (c=zro):=by
 have e0:tx "0"=⟨[zro]⟩:=by decide
 rw[e0,decide_eq_decide]
 constructor
 ·intro h
  injection h with h
  injection h
 ·rintro rfl
  rfl
theorem amT {w:Tx}(h:w.cs.length<=100000):jk w=if nmB w=true then .ok w else .er 20 ():=by
 unfold jk;rw[lH h,T.up_ok,T.ok_bind];unfold nmB
 cases Lw.isN (w.cs.map (·.val))<;>rfl
theorem akx (c:Fin 1114112):ninTx ⟨[c]⟩ (tx "0123456789")=some (!digB c.val):=by
 show some (!decide (c∈(tx "0123456789").cs))=_
 have:(c∈(tx "0123456789").cs)↔(48<=c.val/\c.val<=57):=by
  have e:(tx "0123456789").cs=[⟨48,by decide⟩,⟨49,by decide⟩,⟨50,by decide⟩,⟨51,by decide⟩,⟨52,by decide⟩,⟨53,by decide⟩,⟨54,by decide⟩,⟨55,by decide⟩,⟨56,by decide⟩,⟨57,by decide⟩]:=by decide
  rw[e]
  simp only[List.mem_cons,List.not_mem_nil,or_false,Fin.ext_iff]
  omega
 unfold digB;rw[decide_eq_decide.mpr this]
theorem aoS {w:Tx}(h:w.cs.length<=100000):eY w=if nuB w=true then .ok (nuV w) else .er 20 ():=by
 have hnu:nuB w=true->intT w=some (nuV w):=akv
 unfold eY;rw[aaD h,aa,aa,aa];obtain⟨cs⟩:=w
 match cs,h,hnu with
 | [],h,hnu=>rfl
 | c::cs,h,hnu =>
  have hl:(⟨c::cs⟩:Tx).cs.length=cs.length+1:=rfl
  rw[if_neg (by rw[decide_eq_true_eq];omega)]
  by_cases h9:9 < (⟨c::cs⟩:Tx).cs.length
  ·rw[if_pos (decide_eq_true (by omega))];rw[if_neg (by unfold nuB;simp;omega)]
  ·rw[if_neg (by rw[decide_eq_true_eq];omega),amS (w:=⟨c::cs⟩) rfl h,aa,is0]
   have hb:(if decide (c=zro)=true then(T.ok (decide ((1:Int) < (((⟨c::cs⟩:Tx).cs.length:Nat):Int))):T Unit Bool) else .ok false)=.ok (decide (c=zro)&&decide (1 < cs.length+1)):=by
    by_cases hc:c=zro
    ·rw[if_pos (decide_eq_true hc),decide_eq_true hc,Bool.true_and]
     congr 1
     rw[decide_eq_decide,hl]
     omega
    ·rw[if_neg (by rw[decide_eq_false hc];decide),decide_eq_false hc,Bool.false_and]
   rw[hb,T.ok_bind]
   have hnb:nuB ⟨c::cs⟩=(!(decide (c=zro)&&decide (1 < cs.length+1))&&(c::cs).all λ c=>digB c.val):=by
    unfold nuB
    dsimp only
    rw[decide_eq_true (show 1<=(c::cs).length/\(c::cs).length<=9 from⟨by simp,by have:=h9;simp only[List.length_cons]at this ⊢;omega⟩),Bool.true_and]
    have:decide ((c::cs)[0]?=some zro)=decide (c=zro):=by
     rw[decide_eq_decide]
     simp
    rw[this]
    rfl
   rw[hnb]at hnu ⊢
   cases hz:(decide (c=zro)&&decide (1 < cs.length+1)) with
   | true=>rw[if_pos rfl];rfl
   | false =>
    rw[if_neg (by decide)];rw[hz]at hnu
    rw[mK (g:=λ i6:Tx=>match i6.cs with
     | [c]=>!digB c.val
     | _=>true) (k:=20) λ x hx=>?_,aeS ⟨c::cs⟩ (λ c=>digB c.val) _ λ c=>rfl]
    ·dsimp only
     cases hd:(c::cs).all λ c=>digB c.val with
     | false=>rfl
     | true =>
      rw[hd]at hnu;rw[if_neg (by decide),T.ok_bind,hnu rfl]
      rfl
    ·obtain⟨d,_,rfl⟩:=List.mem_map.mp (show x∈(c::cs).map λ c=>(⟨[c]⟩:Tx) from hx);rw[akx,aa]
end Ty
namespace Ty
open PySem PySem.Spec VS L2 TL
def nI (n:Int):Tx:=tx (toString n)
theorem ao7 (n:Nat):(nI (n:Int)).s=Str.ofString (toString ((n:Nat):Int)):=anh _
theorem ahj (n:Nat):(nI (n:Int)).cs.map (·.val)=numL n:=by
 rw[←Tx.s_list,ao7];exact tl_num n
theorem aeT (n:Nat):(nI (n:Int)).cs.length=(numL n).length:=by rw[←ahj,List.length_map]
theorem aeU:∀ (n:Nat),1<=n->(numL n)[0]?≠some 48:=by
 intro n
 induction n using Nat.strongRecOn with
 | _ n ih =>
  intro h1
  by_cases h:n < 10
  ·rw[numL_lt h];intro q
   injection q with q
   omega
  ·rw[numL_step (by omega)]
   have hne:=numL_ne (n / 10)
   have hl:0 < (numL (n / 10)).length:=List.length_pos_iff.mpr hne
   rw[List.getElem?_append_left hl];exact ih (n / 10) (by omega) (by omega)
theorem amU {n:Nat}(h:n < 1000000000):nuB (nI (n:Int))=true:=by
 have hl:=aeT n
 have h9:(numL n).length<=9:=numL_len (by decide) (by omega)
 have h1:0 < (numL n).length:=List.length_pos_iff.mpr (numL_ne n)
 unfold nuB;rw[decide_eq_true (show 1<=(nI (n:Int)).cs.length/\(nI (n:Int)).cs.length<=9 by omega),Bool.true_and,Bool.and_eq_true]
 constructor
 ·rw[Bool.not_eq_true',Bool.and_eq_false_iff]
  by_cases h0:n=0
  ·right
   subst h0
   rw[hl,numL_lt (by decide)]
   decide
  ·left
   refine decide_eq_false λ q=>aeU n (by omega) ?_;rw[←ahj,List.getElem?_map,q]
   rfl
 ·rw[List.all_eq_true];intro c hc
  have:c.val∈numL n:=by
   rw[←ahj];exact List.mem_map_of_mem hc
  exact decide_eq_true (numL_digits n _ this)
theorem amV {n:Nat}(h:n < 1000000000):nuV (nI (n:Int))=(n:Int):=by
 have h9:(numL n).length<=9:=numL_len (by decide) (by omega)
 unfold nuV intT;rw[if_pos (by rw[Tx.s_len,aeT];omega),ao7,int_num (by omega)]
 rfl
theorem aky {n:Int}(h:0<=n/\n<=1000000000):strI n=some (nI n):=by
 refine if_pos ?_
 have h2:n.natAbs < 2 ^ 31:=by omega
 have:=(Nat.log2_lt (n:=n.natAbs) (k:=31))
 by_cases h0:n.natAbs=0
 ·rw[h0]
  decide
 ·have h3:=(this h0).mpr h2
  omega
def spc:Fin 1114112:=⟨32,by decide⟩
def jc (w:Tx)(ws:List Tx):Tx:=⟨w.cs++ws.flatMap λ x=>spc::x.cs⟩
theorem vQ (p:List Nat):∀ ps:List (List Nat),joinL [32] (p::ps)=p++ps.flatMap λ x=>32::x
 | []=>by simp[joinL]
 | q::r=>by
  show p++([32]++joinL [32] (q::r))=_;rw[vQ q r,List.flatMap_cons]
  try rfl
theorem ao8 (w:Tx)(ws:List Tx):(jc w ws).s=Txt.join (tx " ").s ((w::ws).map Tx.s):=by
 refine ext_tl ?_;rw[join_eq,tl_join]
 have hsp:tl (tx " ").s=[32]:=by decide
 have hm:((w::ws).map Tx.s).map tl=(w.cs.map (·.val))::ws.map λ x=>x.cs.map (·.val):=by
  rw[List.map_map];show tl w.s::ws.map _=_;rw[show tl w.s=w.cs.map (·.val) from Tx.s_list w];exact congrArg _ (List.map_congr_left λ x _=>Tx.s_list x)
 rw[hsp,hm,vQ];show(jc w ws).s.cps.toList=_;rw[Tx.s_list];unfold jc
 dsimp only
 rw[List.map_append,List.map_flatMap,List.flatMap_map]
 rfl
theorem rK (w:Tx)(ws:List Tx):(jc w ws).cs.length=w.cs.length+(ws.map λ x=>x.cs.length+1).sum:=by
 unfold jc
 dsimp only
 rw[List.length_append,List.length_flatMap]
 congr 2
theorem ahk {w:Tx}{ws:List Tx}(h:(jc w ws).cs.length<=100000):joinT (tx " ") (w::ws)=some (jc w ws):=by
 have hok:joinOk (tx " ").s ((w::ws).map Tx.s):=by
  refine decide_eq_true ?_
  have key:∀ us:List Tx,(us.map λ x=>x.cs.length+1).sum=((us.map Tx.s).map (·.length)).sum+us.length:=λ us=>by
   induction us with
   | nil=>rfl
   | cons u us ih =>
    rw[List.map_cons,List.sum_cons,ih,List.map_cons,List.map_cons,List.sum_cons,List.length_cons,Tx.s_len]
    omega
  rw[rK,key]at h;rw[List.map_cons,List.map_cons,List.sum_cons,Tx.s_len,List.length_cons,List.length_map,show(tx " ").s.length=1 by decide]
  omega
 unfold joinT;rw[if_pos hok,←ao8,Tx.s_ofS]
theorem ahl {w:Tx}{ws:List Tx}(hn:∀ x∈w::ws,spc∉x.cs)(h:(jc w ws).cs.length<=100000):splitT (jc w ws) (tx " ")=some (w::ws):=by
 have hs:Txt.split (jc w ws).s (tx " ").s=(w::ws).map Tx.s:=by
  rw[ao8];refine split_join (s:=32) (S:=[]) (by decide) (aaz (by decide)) (by simp) λ p hp=>?_;obtain⟨x,hx,rfl⟩:=List.mem_map.mp hp;intro hm
  have hm:32∈x.s.cps.toList:=hm
  rw[Tx.s_list]at hm;obtain⟨c,hc,e⟩:=List.mem_map.mp hm
  have:c=spc:=Fin.ext e
  exact hn x hx (this ▸ hc)
 unfold splitT;rw[if_pos ⟨by decide,by rw[Tx.s_len,sizeLine_eq];omega⟩,hs,List.map_map]
 congr 1
 refine(List.map_congr_left (g:=id) λ x _=>?_).trans (List.map_id _);exact Tx.s_ofS x
theorem ah8 (w:Tx)(ws:List Tx)(x:Tx):jc w (ws++[x])=(jc w ws++tx " ")++x:=by
 have e:(tx " ").cs=[spc]:=by decide
 unfold jc;show(⟨_⟩:Tx)=⟨((w.cs++_)++(tx " ").cs)++x.cs⟩;rw[e,List.flatMap_append]
 simp
def strW:Un->Tx
 | .i n=>nI n
 | .t x=>x
 | _=>tx ""
def sgn (b:Bool):Tx:=if b then tx "-" else tx "+"
def sgT (b:Bool):Tx:=if b then tx " -" else tx " +"
def wU:List Un->Bool->List Tx
 | [],_=>[]
 | .l xs::r,b=>sgn b::(xs++wU r true)
 | .i n::r,b=>nI n::wU r b
 | .t x::r,b=>x::wU r b
 | .o::r,b=>tx ""::wU r b
theorem aaE {x y:Tx}(h:x.cs.length+y.cs.length<=1000000):catS x y=some (x++y):=if_pos (by rw[sizeLine_eq];omega)
theorem ahm (w:Tx)(a b:List Tx):(jc w a).cs.length<=(jc w (a++b)).cs.length:=by
 rw[rK,rK,List.map_append,List.sum_append]
 omega
theorem aeV {w x:Tx}{acc:List Tx}(h:(jc w (acc++[x])).cs.length<=100000):((T.ofO (catS (jc w acc) (tx " "))).bind λ z=>(T.ofO (catS z x)):T Empty Tx)=.ok (jc w (acc++[x])):=by
 have e:=ah8 w acc x
 have hl:(jc w (acc++[x])).cs.length=(jc w acc).cs.length+1+x.cs.length:=by
  rw[rK,rK,List.map_append,List.sum_append];show _+(_+(x.cs.length+1+0))=_
  omega
 have h1:(tx " ").cs.length=1:=by decide
 have h2:(jc w acc++tx " ").cs.length=(jc w acc).cs.length+1:=by rw[Tx.app_cs,List.length_append,h1]
 rw[aaE (by omega),aa,aaE (by omega),←e]
 rfl
theorem akz {w:Tx}{acc:List Tx}{b:Bool}(h:(jc w (acc++[sgn b])).cs.length<=100000):catS (jc w acc) (sgT b)=some (jc w (acc++[sgn b])):=by
 have hl:(jc w (acc++[sgn b])).cs.length=(jc w acc).cs.length+1+(sgn b).cs.length:=by
  rw[rK,rK,List.map_append,List.sum_append];show _+(_+((sgn b).cs.length+1+0))=_
  omega
 have h1:(sgT b).cs=spc::(sgn b).cs:=by cases b<;>decide
 have h3:(sgT b).cs.length=(sgn b).cs.length+1:=by rw[h1,List.length_cons]
 rw[aaE (by omega),ah8]
 have hsp:(tx " ").cs=[spc]:=by decide
 refine congrArg some ?_;show(⟨(jc w acc).cs++(sgT b).cs⟩:Tx)=⟨((jc w acc).cs++(tx " ").cs)++(sgn b).cs⟩;rw[h1,hsp,List.append_assoc]
 rfl
theorem vR (w:Tx):∀ (xs acc:List Tx),(jc w (acc++xs)).cs.length<=100000->(T.forM xs (jc w acc) (λ(i11:Tx) text13=>(((T.ofO (catS text13 (tx " "))).bind λ x14 =>
 (T.ofO (catS x14 i11)).bind λ x15 =>
 .ok x15):T Empty (Tx))):T Empty Tx)=.ok (jc w (acc++xs))
 | [],acc,_=>by rw[forM_nil,List.append_nil]
 | x::xs,acc,h=>by
  have e:acc++x::xs=(acc++[x])++xs:=by simp
  rw[e]at h ⊢
  have h2:=Nat.le_trans (ahm w (acc++[x]) xs) h
  have hs:=aeV h2
  rw[jt]
  have hb:(((T.ofO (catS (jc w acc) (tx " "))).bind λ x14=>(T.ofO (catS x14 x)).bind λ x15=>.ok x15):T Empty Tx)=.ok (jc w (acc++[x])):=by
   rw[←hs]
   cases catS (jc w acc) (tx " ") with
   | none=>rfl
   | some z=>cases hz:catS z x<;>simp[T.ofO,T.bind,hz]
  rw[hb];exact vR w xs (acc++[x]) h
def shB:Un->Tx×Tx->T Empty (Tx×Tx):=(λ(i4:Un) (v:Tx×Tx)=>((if(Un.isL i4)=true then((T.ofO (catS v.1 v.2)).bind λ x9 =>
 (T.ofO (Un.toL i4)).bind λ u10 =>
 (T.forM u10 (x9:Tx) (λ(i11:Tx) text13=>(((T.ofO (catS text13 (tx " "))).bind λ x14 =>
 (T.ofO (catS x14 i11)).bind λ x15 =>
 .ok x15):T Empty (Tx)))).bind λ text13 =>
 .ok (text13,(tx " -"))) else((T.ofO (catS v.1 (tx " "))).bind λ x16 =>
 (T.ofO (strU i4)).bind λ x17 =>
 (T.ofO (catS x16 x17)).bind λ x18 =>
 .ok (x18,v.2))):T Empty (Tx×Tx)))
theorem qY (w:Tx):∀ (us:List Un) (acc:List Tx) (b:Bool),(∀ u∈us,u.isL=true∨strU u=some (strW u))->(jc w (acc++wU us b)).cs.length<=100000->∃ b',(T.forM us (jc w acc,sgT b) shB:T Empty (Tx×Tx))=.ok (jc w (acc++wU us b),sgT b')
 | [],acc,b,_,_=>⟨b,by rw[forM_nil];show _=T.ok (jc w (acc++[]),_);rw[List.append_nil]⟩
 | u::us,acc,b,hu,h=>by
  have atom:∀ x:Tx,Un.isL u=false->strU u=some x->wU (u::us) b=x::wU us b->∃ b',(T.forM (u::us) (jc w acc,sgT b) shB:T Empty (Tx×Tx))=.ok (jc w (acc++wU (u::us) b),sgT b'):=λ x hL hx hw=>by
   rw[hw]at h
   have e:acc++x::wU us b=(acc++[x])++wU us b:=by simp
   rw[e]at h
   have h2:=Nat.le_trans (ahm w (acc++[x]) (wU us b)) h
   have hs:=aeV h2
   obtain⟨b',ih⟩:=qY w us (acc++[x]) b (λ v hv=>hu v (List.mem_cons_of_mem _ hv)) h;refine⟨b',?_⟩;rw[jt];unfold shB
   dsimp only
   rw[if_neg (by rw[hL];decide),hx]
   have hb:(((T.ofO (catS (jc w acc) (tx " "))).bind λ x16=>(T.ofO (some x)).bind λ x17=>(T.ofO (catS x16 x17)).bind λ x18=>.ok (x18,sgT b)):T Empty (Tx×Tx))=.ok (jc w (acc++[x]),sgT b):=by
    cases hc:catS (jc w acc) (tx " ") with
    | none=>rw[hc]at hs;cases hs
    | some z =>
     rw[hc]at hs
     change (T.ofO (catS z x):T Empty Tx)=_ at hs
     show(T.ofO (catS z x)).bind _=_;rw[hs]
     rfl
   rw[hb,T.ok_bind,hw,e];exact ih
  cases u with
  | i n =>
   rcases hu (.i n) List.mem_cons_self with q | q
   ·cases q
   ·exact atom (nI n) rfl q rfl
  | t x=>exact atom x rfl rfl rfl
  | o =>
   rcases hu .o List.mem_cons_self with q | q<;>cases q
  | l xs =>
   have hw:wU (.l xs::us) b=sgn b::(xs++wU us true):=rfl
   rw[hw]at h ⊢
   have e:acc++sgn b::(xs++wU us true)=((acc++[sgn b])++xs)++wU us true:=by simp
   rw[e]at h ⊢
   have h2:=Nat.le_trans (ahm w ((acc++[sgn b])++xs) (wU us true)) h
   have h3:=Nat.le_trans (ahm w (acc++[sgn b]) xs) h2
   obtain⟨b',ih⟩:=qY w us ((acc++[sgn b])++xs) true (λ v hv=>hu v (List.mem_cons_of_mem _ hv)) h;refine⟨b',?_⟩;rw[jt];unfold shB
   dsimp only
   rw[if_pos (show Un.isL (.l xs)=true from rfl),akz h3,aa,show Un.toL (.l xs)=some xs from rfl,aa,vR w xs _ h2,T.ok_bind,T.ok_bind];exact ih
def numOk (n:Int):Prop:=0<=n/\n < 1000000000
def sideOk (o:List Tx):Prop:=o.length<=26/\∀ x∈o,GoodT x
def RdOk:Wd->Prop
 | .come n d w=>GoodT n/\numOk d/\numOk w
 | .rise n d w=>GoodT n/\numOk d/\numOk w
 | .die n d h=>GoodT n/\numOk d/\GoodT h
 | .penance n=>GoodT n
 | .bring n d=>GoodT n/\numOk d
 | .give t a b d=>numOk t/\GoodT a/\GoodT b/\numOk d
 | .pay a b c d=>GoodT a/\GoodT b/\numOk c/\numOk d
 | .claim a t d x o p=>GoodT a/\numOk t/\numOk d/\numOk x/\sideOk o/\sideOk p
 | .wergild a b c d x o p=>GoodT a/\GoodT b/\numOk c/\numOk d/\numOk x/\sideOk o/\sideOk p
 | .accuse k n d x o p=>numOk k/\GoodT n/\numOk d/\numOk x/\sideOk o/\sideOk p
def w0:Wd->Tx
 | .come _ _ _=>tx "come"
 | .rise _ _ _=>tx "rise"
 | .die _ _ _=>tx "die"
 | .penance _=>tx "penance"
 | .bring _ _=>tx "bring"
 | .give _ _ _ _=>tx "give"
 | .pay _ _ _ _=>tx "pay"
 | .claim _ _ _ _ _ _=>tx "claim"
 | .wergild _ _ _ _ _ _ _=>tx "wergild"
 | .accuse _ _ _ _ _ _=>tx "accuse"
def pU:Wd->List Un
 | .come n d w=>[.t n,.i d,.i w]
 | .rise n d w=>[.t n,.i d,.i w]
 | .die n d h=>[.t n,.i d,.t h]
 | .penance n=>[.t n]
 | .bring n d=>[.t n,.i d]
 | .give t a b d=>[.i t,.t a,.t b,.i d]
 | .pay a b c d=>[.t a,.t b,.i c,.i d]
 | .claim a t d x o p=>[.t a,.i t,.i d,.i x,.l o,.l p]
 | .wergild a b c d x o p=>[.t a,.t b,.i c,.i d,.i x,.l o,.l p]
 | .accuse k n d x o p=>[.i k,.t n,.i d,.i x,.l o,.l p]
theorem qZ (e:Wd):e.t=DeedT.mk (.t (w0 e)::pU e):=by cases e<;>rfl
def shw (e:Wd):Tx:=jc (w0 e) (wU (pU e) false)
theorem dW {n:Int}(h:numOk n):(nI n).cs.length<=12:=by
 obtain⟨k,rfl⟩:=Int.eq_ofNat_of_zero_le h.1
 have:=h.2
 have h9:(numL k).length<=9:=numL_len (by decide) (by omega)
 rw[aeT]
 omega
theorem eU {n:Int}(h:numOk n):strU (.i n)=some (strW (.i n)):=aky ⟨h.1,by have:=h.2;omega⟩
theorem sum_le:∀ (ws:List Tx),(∀ x∈ws,x.cs.length<=12)->(ws.map λ x=>x.cs.length+1).sum<=ws.length * 13
 | [],_=>Nat.le_refl _
 | x::ws,h=>by
  have:=sum_le ws λ y hy=>h y (List.mem_cons_of_mem _ hy)
  have h1:=h x List.mem_cons_self
  rw[List.map_cons,List.sum_cons,List.length_cons]
  omega
theorem ahn {e:Wd}(h:RdOk e):(∀ u∈pU e,u.isL=true∨strU u=some (strW u))/\(wU (pU e) false).length<=60/\∀ x∈wU (pU e) false,x.cs.length<=12:=by
 have gl:∀ {n:Tx},GoodT n->n.cs.length<=12:=λ g=>g.2.2
 have side:∀ {o p:List Tx},sideOk o->sideOk p->∀ x∈sgn false::(o++sgn true::(p++[])),x.cs.length<=12:=λ {o p} ho hp x hx=>by
  rcases List.mem_cons.mp hx with rfl | hx
  ·decide
  rcases List.mem_append.mp hx with hx | hx
  ·exact gl (ho.2 x hx)
  rcases List.mem_cons.mp hx with rfl | hx
  ·decide
  rw[List.append_nil]at hx;exact gl (hp.2 x hx)
 cases e with
 | come n d w =>
  obtain⟨a,b,c⟩:=h;refine⟨λ u hu=>?_,by simp[pU,wU],λ x hx=>?_⟩
  ·simp only[pU,List.mem_cons,List.not_mem_nil,or_false]at hu
   rcases hu with rfl | rfl | rfl
   ·exact .inr rfl
   ·exact .inr (eU b)
   ·exact .inr (eU c)
  ·simp only[pU,wU,List.mem_cons,List.not_mem_nil,or_false]at hx
   rcases hx with rfl | rfl | rfl
   ·exact gl a
   ·exact dW b
   ·exact dW c
 | rise n d w =>
  obtain⟨a,b,c⟩:=h;refine⟨λ u hu=>?_,by simp[pU,wU],λ x hx=>?_⟩
  ·simp only[pU,List.mem_cons,List.not_mem_nil,or_false]at hu
   rcases hu with rfl | rfl | rfl
   ·exact .inr rfl
   ·exact .inr (eU b)
   ·exact .inr (eU c)
  ·simp only[pU,wU,List.mem_cons,List.not_mem_nil,or_false]at hx
   rcases hx with rfl | rfl | rfl
   ·exact gl a
   ·exact dW b
   ·exact dW c
 | die n d z =>
  obtain⟨a,b,c⟩:=h;refine⟨λ u hu=>?_,by simp[pU,wU],λ x hx=>?_⟩
  ·simp only[pU,List.mem_cons,List.not_mem_nil,or_false]at hu
   rcases hu with rfl | rfl | rfl
   ·exact .inr rfl
   ·exact .inr (eU b)
   ·exact .inr rfl
  ·simp only[pU,wU,List.mem_cons,List.not_mem_nil,or_false]at hx
   rcases hx with rfl | rfl | rfl
   ·exact gl a
   ·exact dW b
   ·exact gl c
 | penance n =>
  refine⟨λ u hu=>?_,by simp[pU,wU],λ x hx=>?_⟩
  ·simp only[pU,List.mem_cons,List.not_mem_nil,or_false]at hu
   subst hu
   exact .inr rfl
  ·simp only[pU,wU,List.mem_cons,List.not_mem_nil,or_false]at hx
   subst hx
   exact gl h
 | bring n d =>
  obtain⟨a,b⟩:=h;refine⟨λ u hu=>?_,by simp[pU,wU],λ x hx=>?_⟩
  ·simp only[pU,List.mem_cons,List.not_mem_nil,or_false]at hu
   rcases hu with rfl | rfl
   ·exact .inr rfl
   ·exact .inr (eU b)
  ·simp only[pU,wU,List.mem_cons,List.not_mem_nil,or_false]at hx
   rcases hx with rfl | rfl
   ·exact gl a
   ·exact dW b
 | give t a b d =>
  obtain⟨h1,h2,h3,h4⟩:=h;refine⟨λ u hu=>?_,by simp[pU,wU],λ x hx=>?_⟩
  ·simp only[pU,List.mem_cons,List.not_mem_nil,or_false]at hu
   rcases hu with rfl | rfl | rfl | rfl
   ·exact .inr (eU h1)
   ·exact .inr rfl
   ·exact .inr rfl
   ·exact .inr (eU h4)
  ·simp only[pU,wU,List.mem_cons,List.not_mem_nil,or_false]at hx
   rcases hx with rfl | rfl | rfl | rfl
   ·exact dW h1
   ·exact gl h2
   ·exact gl h3
   ·exact dW h4
 | pay a b c d =>
  obtain⟨h1,h2,h3,h4⟩:=h;refine⟨λ u hu=>?_,by simp[pU,wU],λ x hx=>?_⟩
  ·simp only[pU,List.mem_cons,List.not_mem_nil,or_false]at hu
   rcases hu with rfl | rfl | rfl | rfl
   ·exact .inr rfl
   ·exact .inr rfl
   ·exact .inr (eU h3)
   ·exact .inr (eU h4)
  ·simp only[pU,wU,List.mem_cons,List.not_mem_nil,or_false]at hx
   rcases hx with rfl | rfl | rfl | rfl
   ·exact gl h1
   ·exact gl h2
   ·exact dW h3
   ·exact dW h4
 | claim a t d x o p =>
  obtain⟨h1,h2,h3,h4,h5,h6⟩:=h;refine⟨λ u hu=>?_,?_,λ y hy=>?_⟩
  ·simp only[pU,List.mem_cons,List.not_mem_nil,or_false]at hu
   rcases hu with rfl | rfl | rfl | rfl | rfl | rfl
   ·exact .inr rfl
   ·exact .inr (eU h2)
   ·exact .inr (eU h3)
   ·exact .inr (eU h4)
   ·exact .inl rfl
   ·exact .inl rfl
  ·have:=h5.1
   have:=h6.1
   simp only[pU,wU,List.length_cons,List.length_append,List.length_nil]
   omega
  ·have hy:y∈a::nI t::nI d::nI x::(sgn false::(o++sgn true::(p++[]))):=hy
   rcases List.mem_cons.mp hy with rfl | hy
   ·exact gl h1
   rcases List.mem_cons.mp hy with rfl | hy
   ·exact dW h2
   rcases List.mem_cons.mp hy with rfl | hy
   ·exact dW h3
   rcases List.mem_cons.mp hy with rfl | hy
   ·exact dW h4
   exact side h5 h6 y hy
 | wergild a b c d x o p =>
  obtain⟨h1,h2,h3,h4,h7,h5,h6⟩:=h;refine⟨λ u hu=>?_,?_,λ y hy=>?_⟩
  ·simp only[pU,List.mem_cons,List.not_mem_nil,or_false]at hu
   rcases hu with rfl | rfl | rfl | rfl | rfl | rfl | rfl
   ·exact .inr rfl
   ·exact .inr rfl
   ·exact .inr (eU h3)
   ·exact .inr (eU h4)
   ·exact .inr (eU h7)
   ·exact .inl rfl
   ·exact .inl rfl
  ·have:=h5.1
   have:=h6.1
   simp only[pU,wU,List.length_cons,List.length_append,List.length_nil]
   omega
  ·have hy:y∈a::b::nI c::nI d::nI x::(sgn false::(o++sgn true::(p++[]))):=hy
   rcases List.mem_cons.mp hy with rfl | hy
   ·exact gl h1
   rcases List.mem_cons.mp hy with rfl | hy
   ·exact gl h2
   rcases List.mem_cons.mp hy with rfl | hy
   ·exact dW h3
   rcases List.mem_cons.mp hy with rfl | hy
   ·exact dW h4
   rcases List.mem_cons.mp hy with rfl | hy
   ·exact dW h7
   exact side h5 h6 y hy
 | accuse k n d x o p =>
  obtain⟨h1,h2,h3,h4,h5,h6⟩:=h;refine⟨λ u hu=>?_,?_,λ y hy=>?_⟩
  ·simp only[pU,List.mem_cons,List.not_mem_nil,or_false]at hu
   rcases hu with rfl | rfl | rfl | rfl | rfl | rfl
   ·exact .inr (eU h1)
   ·exact .inr rfl
   ·exact .inr (eU h3)
   ·exact .inr (eU h4)
   ·exact .inl rfl
   ·exact .inl rfl
  ·have:=h5.1
   have:=h6.1
   simp only[pU,wU,List.length_cons,List.length_append,List.length_nil]
   omega
  ·have hy:y∈nI k::n::nI d::nI x::(sgn false::(o++sgn true::(p++[]))):=hy
   rcases List.mem_cons.mp hy with rfl | hy
   ·exact dW h1
   rcases List.mem_cons.mp hy with rfl | hy
   ·exact gl h2
   rcases List.mem_cons.mp hy with rfl | hy
   ·exact dW h3
   rcases List.mem_cons.mp hy with rfl | hy
   ·exact dW h4
   exact side h5 h6 y hy
theorem amW (e:Wd):(w0 e).cs.length<=12:=by
 cases e
 ·exact(show(tx "come").cs.length<=12 by decide)
 ·exact(show(tx "rise").cs.length<=12 by decide)
 ·exact(show(tx "die").cs.length<=12 by decide)
 ·exact(show(tx "penance").cs.length<=12 by decide)
 ·exact(show(tx "bring").cs.length<=12 by decide)
 ·exact(show(tx "give").cs.length<=12 by decide)
 ·exact(show(tx "pay").cs.length<=12 by decide)
 ·exact(show(tx "claim").cs.length<=12 by decide)
 ·exact(show(tx "wergild").cs.length<=12 by decide)
 ·exact(show(tx "accuse").cs.length<=12 by decide)
theorem xG {e:Wd}(h:RdOk e):(shw e).cs.length<=1000:=by
 obtain⟨_,h2,h3⟩:=ahn h
 have:=sum_le _ h3
 have:=amW e
 unfold shw;rw[rK]
 omega
theorem yX {e:Wd}(h:RdOk e):jW e.t=.ok (shw e):=by
 obtain⟨h1,_,_⟩:=ahn h
 have hl:=xG h
 unfold jW;rw[qZ,show atI (DeedT.mk (.t (w0 e)::pU e)).ps (0:Int)=some (.t (w0 e)) from at0 _ _,aa,show Un.toT (.t (w0 e))=some (w0 e) from rfl,aa]
 have hc:cutU (DeedT.mk (.t (w0 e)::pU e)) (some (1:Int)) none=some (DeedT.mk (pU e)):=by cases e<;>rfl
 rw[hc,aa]
 have h0:jc (w0 e) []=w0 e:=by
  unfold jc;rw[List.flatMap_nil,List.append_nil]
 obtain⟨b',hb⟩:=qY (w0 e) (pU e) [] false h1 (by rw[List.nil_append];unfold shw at hl;omega);rw[h0,List.nil_append]at hb;refine Eq.trans (congrArg (λ t=>T.bind t _) (show T.forM (DeedT.mk (pU e)).ps (w0 e,tx " +") _=_ from hb)) ?_
 rfl
theorem aho (s:SrcT):(dU s).Post λ p=>numOk p.1:=by
 unfold dU;obtain⟨r1,s2,e1,a0,a1⟩:=gK s (n:=4) (by omega);rw[e1,T.ok_bind]
 dsimp only
 by_cases h0:r1=0
 ·rw[if_pos (decide_eq_true h0)];obtain⟨r3,s4,e3,b0,b1⟩:=gK s2 (n:=6) (by omega);rw[e3,T.ok_bind]
  dsimp only
  refine j7 (rG (xs:=([(0:Int),(9:Int),(10:Int),(999999999:Int),(100000000:Int),(99:Int)]:List Int)) b0 (by simpa using b1)) (bD ?_)
  have:∀ x∈([(0:Int),(9:Int),(10:Int),(999999999:Int),(100000000:Int),(99:Int)]:List Int),0<=x/\x < 1000000000:=by decide
  exact this _ (List.getElem_mem _)
 ·rw[if_neg (by rw[decide_eq_true_eq];exact h0)]
  by_cases h1:r1=1
  ·rw[if_pos (decide_eq_true h1)];obtain⟨r6,s7,e6,b0,b1⟩:=gK s2 (n:=1000000000) (by omega);rw[e6,T.ok_bind];exact bD ⟨b0,b1⟩
  ·rw[if_neg (by rw[decide_eq_true_eq];exact h1)];obtain⟨r8,s9,e8,b0,b1⟩:=gK s2 (n:=30) (by omega);rw[e8,T.ok_bind];exact bD ⟨b0,by show r8 < 1000000000;omega⟩
end Ty
namespace Ty
open PySem PySem.Spec VS L2 TL
def Wrd (x:Tx):Prop:=GoodT x∨(∃ n,numOk n/\x=nI n)∨x=tx "+"∨x=tx "-"
def UnOk:Un->Prop
 | .i n=>numOk n
 | .t x=>GoodT x
 | .l xs=>∀ x∈xs,GoodT x
 | .o=>False
theorem unOk {e:Wd}(h:RdOk e):∀ u∈pU e,UnOk u:=by
 intro u hu
 cases e with
 | come n d w =>
  obtain⟨a,b,c⟩:=h
  simp only[pU,List.mem_cons,List.not_mem_nil,or_false]at hu
  rcases hu with rfl | rfl | rfl<;>assumption
 | rise n d w =>
  obtain⟨a,b,c⟩:=h
  simp only[pU,List.mem_cons,List.not_mem_nil,or_false]at hu
  rcases hu with rfl | rfl | rfl<;>assumption
 | die n d w =>
  obtain⟨a,b,c⟩:=h
  simp only[pU,List.mem_cons,List.not_mem_nil,or_false]at hu
  rcases hu with rfl | rfl | rfl<;>assumption
 | penance n =>
  simp only[pU,List.mem_cons,List.not_mem_nil,or_false]at hu
  subst hu
  exact h
 | bring n d =>
  obtain⟨a,b⟩:=h
  simp only[pU,List.mem_cons,List.not_mem_nil,or_false]at hu
  rcases hu with rfl | rfl<;>assumption
 | give t a b d =>
  obtain⟨h1,h2,h3,h4⟩:=h
  simp only[pU,List.mem_cons,List.not_mem_nil,or_false]at hu
  rcases hu with rfl | rfl | rfl | rfl<;>assumption
 | pay a b c d =>
  obtain⟨h1,h2,h3,h4⟩:=h
  simp only[pU,List.mem_cons,List.not_mem_nil,or_false]at hu
  rcases hu with rfl | rfl | rfl | rfl<;>assumption
 | claim a t d x o p =>
  obtain⟨h1,h2,h3,h4,h5,h6⟩:=h
  simp only[pU,List.mem_cons,List.not_mem_nil,or_false]at hu
  rcases hu with rfl | rfl | rfl | rfl | rfl | rfl<;>first | assumption | exact h5.2 | exact h6.2
 | wergild a b c d x o p =>
  obtain⟨h1,h2,h3,h4,h7,h5,h6⟩:=h
  simp only[pU,List.mem_cons,List.not_mem_nil,or_false]at hu
  rcases hu with rfl | rfl | rfl | rfl | rfl | rfl | rfl<;>first | assumption | exact h5.2 | exact h6.2
 | accuse k n d x o p =>
  obtain⟨h1,h2,h3,h4,h5,h6⟩:=h
  simp only[pU,List.mem_cons,List.not_mem_nil,or_false]at hu
  rcases hu with rfl | rfl | rfl | rfl | rfl | rfl<;>first | assumption | exact h5.2 | exact h6.2
theorem ahp:∀ (us:List Un) (b:Bool),(∀ u∈us,UnOk u)->∀ x∈wU us b,Wrd x
 | [],_,_,x,hx=>by cases hx
 | u::us,b,h,x,hx=>by
  have h1:=h u List.mem_cons_self
  have h2:∀ v∈us,UnOk v:=λ v hv=>h v (List.mem_cons_of_mem _ hv)
  cases u with
  | i n =>
   rcases List.mem_cons.mp hx with rfl | hx
   ·exact .inr (.inl ⟨n,h1,rfl⟩)
   ·exact ahp us b h2 x hx
  | t y =>
   rcases List.mem_cons.mp hx with rfl | hx
   ·exact .inl h1
   ·exact ahp us b h2 x hx
  | o=>exact h1.elim
  | l xs =>
   rcases List.mem_cons.mp hx with rfl | hx
   ·cases b
    ·exact .inr (.inr (.inl rfl))
    ·exact .inr (.inr (.inr rfl))
   ·rcases List.mem_append.mp hx with hx | hx
    ·exact .inl (h1 x hx)
    ·exact ahp us true h2 x hx
theorem akA {n:Int}(h:numOk n){c:Fin 1114112}(hc:c∈(nI n).cs):48<=c.val/\c.val<=57:=by
 obtain⟨k,rfl⟩:=Int.eq_ofNat_of_zero_le h.1;refine numL_digits k _ ?_;rw[←ahj];exact List.mem_map_of_mem hc
theorem akB {x:Tx}(h:Wrd x):spc∉x.cs:=λ q=>by
 rcases h with h | ⟨n,h,rfl⟩ | rfl | rfl
 ·have:=h.1 spc q
  exact absurd this.1 (by decide)
 ·have:=akA h q
  exact absurd this.1 (by decide)
 ·exact absurd q (by decide)
 ·exact absurd q (by decide)
theorem akC (e:Wd):spc∉(w0 e).cs:=by
 cases e
 ·exact(show spc∉(tx "come").cs by decide)
 ·exact(show spc∉(tx "rise").cs by decide)
 ·exact(show spc∉(tx "die").cs by decide)
 ·exact(show spc∉(tx "penance").cs by decide)
 ·exact(show spc∉(tx "bring").cs by decide)
 ·exact(show spc∉(tx "give").cs by decide)
 ·exact(show spc∉(tx "pay").cs by decide)
 ·exact(show spc∉(tx "claim").cs by decide)
 ·exact(show spc∉(tx "wergild").cs by decide)
 ·exact(show spc∉(tx "accuse").cs by decide)
theorem yZ {e:Wd}(h:RdOk e):splitT (shw e) (tx " ")=some (w0 e::wU (pU e) false):=by
 refine ahl (λ x hx=>?_) (by have:=xG h;unfold shw at this;omega);rcases List.mem_cons.mp hx with rfl | hx
 ·exact akC e
 ·exact akB (ahp _ _ (unOk h) x hx)
theorem akD {x:Tx}(h:GoodT x):nmB x=true:=Lw.sG (ou h)
theorem gl5 {x:Tx}(h:GoodT x):x.cs.length<=100000:=by
 have:=h.2.2
 omega
theorem akE {x:Tx}(h:GoodT x):jk x=.ok x:=by rw[amT (gl5 h),if_pos (akD h)]
theorem amX {n:Int}(h:numOk n):eY (nI n)=.ok n:=by
 obtain⟨k,rfl⟩:=Int.eq_ofNat_of_zero_le h.1
 have hk:k < 1000000000:=by have:=h.2;omega
 have hl:=dW h
 rw[aoS (by omega),if_pos (amU hk),amV hk]
def qH:Un->Tx->Prop
 | .t _,s=>s=tx "a"
 | .i _,s=>s≠tx "a"
 | _,_=>False
theorem aeW {α:Type}{xs:List α}{a b:Nat}(ha:a<=b)(hb:b<=xs.length):cutT xs (some (a:Int)) (some (b:Int))=(xs.drop a).take (b - a):=by
 have h1:HT.sIx xs.length 0 (some (a:Int))=a:=by
  unfold HT.sIx
  simp only[]
  rw[if_neg (by omega),Int.toNat_natCast]
  omega
 have h2:HT.sIx xs.length xs.length (some (b:Int))=b:=by
  unfold HT.sIx
  simp only[]
  rw[if_neg (by omega),Int.toNat_natCast]
  omega
 unfold cutT;rw[h1,h2]
theorem akF {x:Tx}(h:GoodT x){s:String}{c:Fin 1114112}(hs:(tx s).cs=[c])(hc:c.val < 97):x≠tx s:=λ q=>by
 have:=h.1 c (by rw[q,hs];exact List.mem_singleton.mpr rfl)
 omega
theorem vU {x:Tx}(h:GoodT x):x≠tx "-":=akF h (c:=⟨45,by decide⟩) (by decide) (by decide)
theorem uW:tx "b"≠tx "a":=by decide
theorem ao9:signsT (tx "a")=[tx "a"]:=by decide
theorem aeX:signsT (tx "aabb")=[tx "a",tx "a",tx "b",tx "b"]:=by decide
theorem abw:signsT (tx "aabbb")=[tx "a",tx "a",tx "b",tx "b",tx "b"]:=by decide
theorem amY:signsT (tx "ab")=[tx "a",tx "b"]:=by decide
theorem ah9:signsT (tx "aba")=[tx "a",tx "b",tx "a"]:=by decide
theorem abx:signsT (tx "abb")=[tx "a",tx "b",tx "b"]:=by decide
theorem aeY:signsT (tx "abbb")=[tx "a",tx "b",tx "b",tx "b"]:=by decide
theorem aeZ:signsT (tx "baab")=[tx "b",tx "a",tx "a",tx "b"]:=by decide
theorem ae0:signsT (tx "babb")=[tx "b",tx "a",tx "b",tx "b"]:=by decide
theorem akG:(List.lookup (tx "come").s ([("come","abb"),("rise","abb"),("die","aba"),("penance","a"),("bring","ab"),("give","baab"),("pay","aabb"),("claim","abbb"),("wergild","aabbb"),("accuse","babb")]:List (Str×Str))).isSome=true:=by decide
theorem akH:tabT ([("come","abb"),("rise","abb"),("die","aba"),("penance","a"),("bring","ab"),("give","baab"),("pay","aabb"),("claim","abbb"),("wergild","aabbb"),("accuse","babb")]:List (Str×Str)) (tx "come")=some (tx "abb"):=by decide
theorem akI:(List.lookup (tx "rise").s ([("come","abb"),("rise","abb"),("die","aba"),("penance","a"),("bring","ab"),("give","baab"),("pay","aabb"),("claim","abbb"),("wergild","aabbb"),("accuse","babb")]:List (Str×Str))).isSome=true:=by decide
theorem akJ:tabT ([("come","abb"),("rise","abb"),("die","aba"),("penance","a"),("bring","ab"),("give","baab"),("pay","aabb"),("claim","abbb"),("wergild","aabbb"),("accuse","babb")]:List (Str×Str)) (tx "rise")=some (tx "abb"):=by decide
theorem amZ:(List.lookup (tx "die").s ([("come","abb"),("rise","abb"),("die","aba"),("penance","a"),("bring","ab"),("give","baab"),("pay","aabb"),("claim","abbb"),("wergild","aabbb"),("accuse","babb")]:List (Str×Str))).isSome=true:=by decide
theorem am0:tabT ([("come","abb"),("rise","abb"),("die","aba"),("penance","a"),("bring","ab"),("give","baab"),("pay","aabb"),("claim","abbb"),("wergild","aabbb"),("accuse","babb")]:List (Str×Str)) (tx "die")=some (tx "aba"):=by decide
theorem ab9:(List.lookup (tx "penance").s ([("come","abb"),("rise","abb"),("die","aba"),("penance","a"),("bring","ab"),("give","baab"),("pay","aabb"),("claim","abbb"),("wergild","aabbb"),("accuse","babb")]:List (Str×Str))).isSome=true:=by decide
theorem aca:tabT ([("come","abb"),("rise","abb"),("die","aba"),("penance","a"),("bring","ab"),("give","baab"),("pay","aabb"),("claim","abbb"),("wergild","aabbb"),("accuse","babb")]:List (Str×Str)) (tx "penance")=some (tx "a"):=by decide
theorem ahq:(List.lookup (tx "bring").s ([("come","abb"),("rise","abb"),("die","aba"),("penance","a"),("bring","ab"),("give","baab"),("pay","aabb"),("claim","abbb"),("wergild","aabbb"),("accuse","babb")]:List (Str×Str))).isSome=true:=by decide
theorem ahr:tabT ([("come","abb"),("rise","abb"),("die","aba"),("penance","a"),("bring","ab"),("give","baab"),("pay","aabb"),("claim","abbb"),("wergild","aabbb"),("accuse","babb")]:List (Str×Str)) (tx "bring")=some (tx "ab"):=by decide
theorem akK:(List.lookup (tx "give").s ([("come","abb"),("rise","abb"),("die","aba"),("penance","a"),("bring","ab"),("give","baab"),("pay","aabb"),("claim","abbb"),("wergild","aabbb"),("accuse","babb")]:List (Str×Str))).isSome=true:=by decide
theorem akL:tabT ([("come","abb"),("rise","abb"),("die","aba"),("penance","a"),("bring","ab"),("give","baab"),("pay","aabb"),("claim","abbb"),("wergild","aabbb"),("accuse","babb")]:List (Str×Str)) (tx "give")=some (tx "baab"):=by decide
theorem am1:(List.lookup (tx "pay").s ([("come","abb"),("rise","abb"),("die","aba"),("penance","a"),("bring","ab"),("give","baab"),("pay","aabb"),("claim","abbb"),("wergild","aabbb"),("accuse","babb")]:List (Str×Str))).isSome=true:=by decide
theorem am2:tabT ([("come","abb"),("rise","abb"),("die","aba"),("penance","a"),("bring","ab"),("give","baab"),("pay","aabb"),("claim","abbb"),("wergild","aabbb"),("accuse","babb")]:List (Str×Str)) (tx "pay")=some (tx "aabb"):=by decide
theorem ahs:(List.lookup (tx "claim").s ([("come","abb"),("rise","abb"),("die","aba"),("penance","a"),("bring","ab"),("give","baab"),("pay","aabb"),("claim","abbb"),("wergild","aabbb"),("accuse","babb")]:List (Str×Str))).isSome=true:=by decide
theorem aht:tabT ([("come","abb"),("rise","abb"),("die","aba"),("penance","a"),("bring","ab"),("give","baab"),("pay","aabb"),("claim","abbb"),("wergild","aabbb"),("accuse","babb")]:List (Str×Str)) (tx "claim")=some (tx "abbb"):=by decide
theorem acb:(List.lookup (tx "wergild").s ([("come","abb"),("rise","abb"),("die","aba"),("penance","a"),("bring","ab"),("give","baab"),("pay","aabb"),("claim","abbb"),("wergild","aabbb"),("accuse","babb")]:List (Str×Str))).isSome=true:=by decide
theorem acd:tabT ([("come","abb"),("rise","abb"),("die","aba"),("penance","a"),("bring","ab"),("give","baab"),("pay","aabb"),("claim","abbb"),("wergild","aabbb"),("accuse","babb")]:List (Str×Str)) (tx "wergild")=some (tx "aabbb"):=by decide
theorem ae1:(List.lookup (tx "accuse").s ([("come","abb"),("rise","abb"),("die","aba"),("penance","a"),("bring","ab"),("give","baab"),("pay","aabb"),("claim","abbb"),("wergild","aabbb"),("accuse","babb")]:List (Str×Str))).isSome=true:=by decide
theorem ae2:tabT ([("come","abb"),("rise","abb"),("die","aba"),("penance","a"),("bring","ab"),("give","baab"),("pay","aabb"),("claim","abbb"),("wergild","aabbb"),("accuse","babb")]:List (Str×Str)) (tx "accuse")=some (tx "babb"):=by decide
end Ty
namespace VS
open PySem PySem.Spec PyProof.Rows L2
section
variable {A:LS}{ω β γ ε ε':Type}{B:β->LS}{X:ε->LS}{F:β->ω}
end
def aia (A A2:LS):Prop:=Mt A2 (nu A)
theorem am3:aia [] []:=aO
theorem aoT {A A2:LS}{o:Option S}(h:aia A A2):aia (o::A) (none::A2):=dH h
theorem am4 {A A2:LS}{d:D}(h:aia A A2):aia (some (.d d)::A) (some (.d d)::A2):=fY h
theorem Mt.view3 {A L:LS}(h:Mt A L):Mt (nu A) (nu L):=by
 refine⟨?_,λ i s hi=>?_⟩
 ·unfold nu;rw[List.length_map,List.length_map];exact h.1
 ·unfold nu at hi ⊢;rw[List.getElem?_map]at hi ⊢;obtain⟨o,h1,h2⟩:=Option.map_eq_some_iff.mp hi
  cases o with
  | none=>cases h2
  | some s0 =>
   rw[h.2 i s0 h1];exact congrArg some h2
theorem ahu {A A2:LS}{ω β γ ε ε':Type}{B:β->LS}{X:ε->LS}{F:β->ω}{g:LS->R D}{k:D->LS->R ω}{t1:T ε' γ}{f:γ->D}{B1:γ->LS}{X1:ε'->LS}{t':γ->T ε β}(hA:aia A A2)(h1:SK A2 g t1 f B1 X1)(hs:∀ c,scal (f c)=true)(h2:∀ c,SK A (k (f c)) (t' c) F B X):SK A (λ L=>(vh g L).bind k) ((T.nv t1).bind t') F B X:=λ L hL=>by
 have h:=h1 _ (hA.trans hL.view3)
 show SimR ((vh g L).bind k) _ F B X;unfold vh
 cases t1 with
 | no=>trivial
 | er c e=>trivial
 | ok a =>
  obtain⟨L1,e,_⟩:=h;rw[e];show SimR ((if scal (f a)=true then R.ok (f a) L else .stuck).bind k) _ F B X;rw[if_pos (hs a)];exact h2 a L hL
end VS
namespace Ty
open PySem PySem.Spec VS L2
theorem apj {A A2:LS}{d:DeedT}(h:aia A A2):aia (some (deedS d)::A) (some (.d (Enc.enc d))::A2):=by
 have e:adK (some (deedS d))=some (.d (Enc.enc d)):=by
  show(s1Ds (d.ps.map unS)).map _=_;rw[aeu]
  rfl
 show Mt _ (adK (some (deedS d))::nu A);rw[e];exact fY h
structure L3 (α β γ:Type) where
 a:α
 b:β
 c:γ
instance {α β γ:Type}[Enc α][Enc β][Enc γ]:Enc (L3 α β γ):=⟨λ p=>.list [Enc.enc p.a,Enc.enc p.b,Enc.enc p.c]⟩
section
variable {A:LS}{ω β ε:Type}{B:β->LS}{X:ε->LS}{F:β->ω}{t:T ε β}
end
end Ty
namespace Ty
open PySem PySem.Spec PyProof.Rows VS Lw L2
theorem aby {vs:List Nat}{j:Nat}(hv:vs=[j]):∀ (us:List Un) (acc:List Un) (L:LS),j < L.length->acc.length+us.length<=sizeLine->L[j]?=some none ->
  lcGoS vs j (gIfE (gViewT (gB (gIsi "list" (gPeek j)))) (gViewE (gUn dList (gPeek j))) (gD (gView (gVar j)))) (us.map Enc.enc) (acc.map unS) L=.ok (.os ((acc++us).map unS)) L
 | [],acc,L,hl,_,_=>by rw[List.append_nil];rfl
 | u::us,acc,L,hl,hz,hn=>by
  have hz':acc.length+(us.length+1)<=sizeLine:=hz
  have hw:wipeL (L.set j (some (.b (Enc.enc u)))) vs=L.set j none:=by
   subst hv
   show(L.set j _).set j none=_;rw[List.set_set]
  have one:gIfE (gViewT (gB (gIsi "list" (gPeek j)))) (gViewE (gUn dList (gPeek j))) (gD (gView (gVar j))) (L.set j (some (.b (Enc.enc u))))=.ok (unS u) (L.set j (some (.b (Enc.enc u)))):=by
   have h1:(viewL (L.set j (some (.b (Enc.enc u)))))[j]?=some (some (.d (Enc.enc u))):=by
    unfold viewL;rw[List.getElem?_map,List.getElem?_set_self hl]
    rfl
   have pk:gPeek j (viewL (L.set j (some (.b (Enc.enc u)))))=.ok (Enc.enc u) (viewL (L.set j (some (.b (Enc.enc u))))):=by
    unfold gPeek;rw[h1]
   have vr:gVar j (viewL (L.set j (some (.b (Enc.enc u)))))=.ok (Enc.enc u) (viewL (L.set j (some (.b (Enc.enc u))))):=by
    unfold gVar;rw[h1]
   have ty:∀ b,isTy "list" (Enc.enc u)=some (.bool b)->gViewT (gB (gIsi "list" (gPeek j))) (L.set j (some (.b (Enc.enc u))))=.ok b (L.set j (some (.b (Enc.enc u)))):=λ b hb=>by
    unfold gViewT
    rw[show gB (gIsi "list" (gPeek j)) (viewL (L.set j (some (.b (Enc.enc u)))))=.ok b (viewL (L.set j (some (.b (Enc.enc u))))) by
     show(((gPeek j _).bind λ d L1=>ofO (isTy "list" d) L1)).bind asB=_;rw[pk,R.bind_ok,hb]
     rfl]
   have no:∀ d:D,Enc.enc u=d->scal d=true->unS u=.d d->gIfE (gViewT (gB (gIsi "list" (gPeek j)))) (gViewE (gUn dList (gPeek j))) (gD (gView (gVar j))) (L.set j (some (.b (Enc.enc u))))=.ok (unS u) (L.set j (some (.b (Enc.enc u)))):=λ d hd hs hu=>by
    show((gViewT (gB (gIsi "list" (gPeek j))) (L.set j (some (.b (Enc.enc u))))).bind λ x L1=>if x=true then _ else _)=_;rw[ty false (by rw[hd];exact yq hs)];show gD (gView (gVar j)) (L.set j (some (.b (Enc.enc u))))=_;show(gView (gVar j) (L.set j (some (.b (Enc.enc u))))).bind _=_;unfold gView;rw[vr];show(if scal (Enc.enc u)=true then R.ok (Enc.enc u) (L.set j (some (.b (Enc.enc u)))) else .stuck).bind _=_;rw[if_pos (by rw[hd];exact hs),hu,hd]
    rfl
   cases u with
   | i n=>exact no _ rfl rfl rfl
   | t x=>exact no _ rfl rfl rfl
   | o=>exact no _ rfl rfl rfl
   | l xs =>
    show((gViewT (gB (gIsi "list" (gPeek j))) (L.set j (some (.b (Enc.enc (Un.l xs)))))).bind λ x L1=>if x=true then _ else _)=_;rw[ty true yr];show gViewE (gUn dList (gPeek j)) (L.set j (some (.b (Enc.enc (Un.l xs)))))=_;unfold gViewE
    rw[show gUn dList (gPeek j) (viewL (L.set j (some (.b (Enc.enc (Un.l xs))))))=.ok (.ol (xs.map Enc.enc)) (viewL (L.set j (some (.b (Enc.enc (Un.l xs)))))) by
     show((gPeek j _).bind λ d L1=>ofO (dList d) L1)=_;rw[pk]
     rfl]
    show(if(xs.map Enc.enc).all scal=true then R.ok (S.ol (xs.map Enc.enc)) _ else .stuck)=_;rw[if_pos (aj8 xs)]
    rfl
  have hLs:L.set j none=L:=by
   refine List.ext_getElem? λ m=>?_
   by_cases z:j=m
   ·subst z
    rw[List.getElem?_set_self hl,hn]
   ·rw[List.getElem?_set_ne z]
  have h3:=aby hv us (acc++[u]) (L.set j none) (by rw[List.length_set];exact hl) (by rw[List.length_append,List.length_singleton];omega) (List.getElem?_set_self hl)
  show(match gIfE (gViewT (gB (gIsi "list" (gPeek j)))) (gViewE (gUn dList (gPeek j))) (gD (gView (gVar j))) (L.set j (some (.b (Enc.enc u)))) with
   | .ok s L3=>if(acc.map unS).length < sizeLine/\s.own=true then lcGoS vs j _ (us.map Enc.enc) (acc.map unS++[s]) (wipeL L3 vs) else .stuck
   | _=>.stuck)=_
  rw[one];show(if(acc.map unS).length < sizeLine/\(unS u).own=true then lcGoS vs j _ (us.map Enc.enc) (acc.map unS++[unS u]) (wipeL _ vs) else .stuck)=_;rw[if_pos ⟨by rw[List.length_map];omega,by cases u<;>rfl⟩,hw];rw[List.map_append,List.append_assoc]at h3;rw[hLs]at h3 ⊢;exact h3
section
variable {ε α β ω:Type}{A:LS}{t:T ε β}{F:β->ω}{B:β->LS}{X:ε->LS}
theorem am5 {i j:Nat}{d:DeedT}{A1:LS}{k:S->LS->R ω}(h:A[i]?=some (dv d))(hj:j < A.length)(e:A.set j none=A1)(h2:SK A1 (k (deedS d)) t F B X) :
  SK A (λ L=>(gTupS (gLcS [j] (gLentT i) j (gIfE (gViewT (gB (gIsi "list" (gPeek j)))) (gViewE (gUn dList (gPeek j))) (gD (gView (gVar j))))) L).bind k) (T.gd (d.ps.length<=sizeLine) t) F B X:=akR λ hz L hL=>by
 subst e
 have hLi:L[i]?=some (dv d):=hL.2 i _ h
 have hlen:j < L.length:=by rw[hL.1];exact hj
 have e1:gLcS [j] (gLentT i) j (gIfE (gViewT (gB (gIsi "list" (gPeek j)))) (gViewE (gUn dList (gPeek j))) (gD (gView (gVar j)))) L=.ok (.os (d.ps.map unS)) (L.set j none):=by
  have g1:gLentT i L=.ok (d.ps.map Enc.enc) L:=by
   unfold gLentT;rw[hLi]
   rfl
  show((gLentT i L).bind λ ds L1=>lcGoS [j] j _ ds [] (wipeL L1 [j]))=_;rw[g1];exact aby rfl d.ps [] (L.set j none) (by rw[List.length_set];exact hlen) (by rw[List.length_nil];omega) (List.getElem?_set_self hlen)
 have e2:gTupS (gLcS [j] (gLentT i) j (gIfE (gViewT (gB (gIsi "list" (gPeek j)))) (gViewE (gUn dList (gPeek j))) (gD (gView (gVar j))))) L=.ok (deedS d) (L.set j none):=by
  show(gLcS [j] (gLentT i) j _ L).bind tupS=_;rw[e1];show(if(d.ps.map unS).length<=sizeLine then R.ok (S.ot (d.ps.map unS)) (L.set j none) else .stuck)=_;rw[if_pos (by rw[List.length_map];exact hz)]
  rfl
 show SimR ((gTupS _ L).bind k) t F B X;rw[e2];exact h2 _ (hL.set j none)
def nlU (us:List Un):Bool:=us.all λ u=>!u.isL
theorem ae3:∀ {us:List Un},nlU us=true->(us.map (Enc.enc:Un->D)).map S.d=us.map unS
 | [],_=>rfl
 | u::us,h=>by
  have h:((!u.isL)&&nlU us)=true:=h
  rw[Bool.and_eq_true]at h;rw[List.map_cons,List.map_cons,List.map_cons,ae3 h.2]
  congr 1
  cases u with
  | l xs=>exact absurd (show(false:Bool)=true from h.1) (by decide)
  | _=>rfl
structure SidesT where
 apF:List Tx
 apE:List Tx
@[reducible] def sidesS (w:SidesT):S:=.os [.ol (w.apF.map Enc.enc),.ol (w.apE.map Enc.enc)]
theorem ahv {ga:LS->R D}{gb:LS->R S}{k:S->LS->R ω}(h:SK A (λ L=>(ga L).bind λ d L1=>(gb L1).bind λ s L2=>((catSQ d s L2).bind tupS).bind k) t F B X):SK A (λ L=>(gTupS (gAddS ga gb) L).bind k) t F B X:=λ L hL=>by
 have h3:=h L hL
 show SimR ((((ga L).bind λ d L1=>(gb L1).bind λ s L2=>catSQ d s L2).bind tupS).bind k) t F B X
 have e:((((ga L).bind λ d L1=>(gb L1).bind λ s L2=>catSQ d s L2).bind tupS).bind k)=(ga L).bind λ d L1=>(gb L1).bind λ s L2=>((catSQ d s L2).bind tupS).bind k:=by
  cases ga L with
  | ok d L1 =>
   show((((gb L1).bind λ s L2=>catSQ d s L2).bind tupS).bind k)=(gb L1).bind λ s L2=>((catSQ d s L2).bind tupS).bind k
   cases gb L1<;>rfl
  | err c L1=>rfl
  | stuck=>rfl
 rw[e];exact h3
theorem ahw {us:List Un}{w:SidesT}{k:S->LS->R ω}(h:SK A (k (deedS (DeedT.mk (us++[Un.l w.apF,Un.l w.apE])))) t F B X):SK A (λ L=>((catSQ (Enc.enc us) (sidesS w) L).bind tupS).bind k) (T.gd (nlU us=true/\us.length+2<=sizeLine) t) F B X:=akR λ hz L hL=>by
 have e:(catSQ (Enc.enc us) (sidesS w) L).bind tupS=.ok (deedS (DeedT.mk (us++[Un.l w.apF,Un.l w.apE]))) L:=by
  show((if(us.map (Enc.enc:Un->D)).length+2<=sizeLine then R.ok (S.os ((us.map (Enc.enc:Un->D)).map .d++[.ol (w.apF.map Enc.enc),.ol (w.apE.map Enc.enc)])) L else .stuck).bind tupS)=_;rw[if_pos (by rw[List.length_map];exact hz.2),ae3 hz.1];show(if(us.map unS++[S.ol (w.apF.map Enc.enc),S.ol (w.apE.map Enc.enc)]).length<=sizeLine then R.ok (S.ot _) L else .stuck)=_;rw[if_pos (by rw[List.length_append,List.length_map];exact hz.2)];unfold deedS;rw[List.map_append]
  rfl
 show SimR (((catSQ (Enc.enc us) (sidesS w) L).bind tupS).bind k) t F B X;rw[e];exact h L hL
theorem apk {g:LS->R D}{k:S->LS->R ω}(h:SK A (λ L=>(g L).bind λ d L1=>(otS d L1).bind k) t F B X):SK A (λ L=>(gOt g L).bind k) t F B X:=fO (k:=otS) h
theorem apl {d:DeedT}{k:S->LS->R ω}(h:SK A (k (deedS d)) t F B X):SK A (λ L=>(otS (Enc.enc d) L).bind k) (T.gd (nlU d.ps=true) t) F B X:=akR λ hz L hL=>by
 show SimR ((R.ok (S.ot ((d.ps.map (Enc.enc:Un->D)).map .d)) L).bind k) t F B X;rw[ae3 hz];exact h L hL
def lenU:Un->Nat
 | .l xs=>xs.length
 | _=>0
def grwOk (d:DeedT):Bool:=decide (d.ps.length<=sizeLine)&&d.ps.all λ u=>decide (lenU u+d.ps.length < sizeLine)
theorem akM (u:Un):lenS (unS u)=lenU u:=by
 cases u with
 | l xs=>exact List.length_map _
 | _=>rfl
theorem aoU {K:Kont ω}{i j:Nat}{d:DeedT}{A1:LS}(h:A[i]?=some (some (deedS d)))(hj:j < A.length)(e:(A.set i none).set j none=A1)(h2:SK A1 K.nx t F B X):SS A (gGrw i j) K (T.gd (grwOk d=true) t) F B X:=akR λ hl L hL=>by
 subst e
 unfold grwOk at hl;rw[Bool.and_eq_true,decide_eq_true_eq]at hl;show SimR (fin K (gGrw i j L)) t F B X;unfold gGrw;rw[hL.2 i _ h];show SimR (fin K (if(d.ps.map unS).all akQ=true/\(d.ps.map unS).all (λ s=>decide (lenS s+(d.ps.map unS).length < sizeLine))=true/\(d.ps.map unS).length<=sizeLine/\j < L.length then .ok .nx ((L.set i none).set j none) else .stuck)) t F B X
 rw[if_pos ⟨amD _,by
  rw[List.all_map,List.length_map];refine List.all_eq_true.mpr λ u hu=>?_
  have:=List.all_eq_true.mp hl.2 u hu
  show decide (lenS (unS u)+d.ps.length < sizeLine)=true;rw[akM]
  exact this,by rw[List.length_map];exact hl.1,by rw[hL.1];exact hj⟩]
 exact h2 _ ((hL.set i none).set j none)
end
end Ty
noncomputable section
namespace Ty
open PySem VS Lw L2
def cW (deed:DeedT):T Empty (Tx) :=
 (T.ofO (atI deed.ps (0:Int))).bind λ x1 =>
 (T.ofO (Un.toT x1)).bind λ u2 =>
 if(!(memT u2 ((Kt.mk ["claim","wergild","accuse"])).ts))=true then((T.lcs deed.ps (λ(i3:Un)=>(((T.ofO (strU i3)).bind λ x5 =>
 .ok (some x5)):T Empty (Option Tx)))).bind λ l4 =>
 (T.ofO (joinT (tx " ") l4)).bind λ w6 =>
 .ok w6) else((T.ofO (cutU deed none (some (-2:Int)))).bind λ w7 =>
 (T.lcs w7.ps (λ(i8:Un)=>(((T.ofO (strU i8)).bind λ x10 =>
 .ok (some x10)):T Empty (Option Tx)))).bind λ l9 =>
 (T.ofO (catT l9 (([(tx "+")]:List Tx):(List Tx)))).bind λ x11 =>
 (T.ofO (atI deed.ps (-2:Int))).bind λ x12 =>
 (T.ofO (Un.toL x12)).bind λ u13 =>
 (T.ofO (catT x11 u13)).bind λ x14 =>
 (T.ofO (catT x14 (([(tx "-")]:List Tx):(List Tx)))).bind λ x15 =>
 (T.ofO (atI deed.ps (-1:Int))).bind λ x16 =>
 (T.ofO (Un.toL x16)).bind λ u17 =>
 (T.ofO (catT x15 u17)).bind λ x18 =>
 (T.ofO (joinT (tx " ") x18)).bind λ w19 =>
 .ok w19)
theorem rM (deed:DeedT):SK [dv deed] Lw.iz (cW deed) (λ r=>(S.d (Enc.enc r))) (λ r=>[none]) XV:=by
 unfold Lw.iz Lw.rE cW;refine rQ (X':=XV) ?_ cO;show SK [dv deed,none] _ _ _ _ _;refine dY ?_;refine tY ?_;refine e_B ?_;refine rF ?_;refine qp (by rfl) ?_;refine aX (jr (d:=Enc.enc (0:Int))) ?_;refine aX (aW (by rfl)) ?_;refine jX (p:=atI deed.ps (0:Int)) (f:=Enc.enc) (ag7 deed (0:Int)) (λ x1=>?_);refine aX (jr (d:=Enc.enc (Kt.mk ["claim","wergild","accuse"]))) ?_;rcases hhu2:x1 with u2 | u2 | u2 | _;exact tX;rotate_left;exact tX;exact tX;refine vK ?_;refine e_o (z:=(Enc.enc ((!(memT u2 ((Kt.mk ["claim","wergild","accuse"])).ts)):Bool))) (abn u2 (Kt.mk ["claim","wergild","accuse"])) ?_;refine fW ?_;refine tZ (x:=(!(memT u2 ((Kt.mk ["claim","wergild","accuse"])).ts))) ?_ ?_
 ·refine s_ret ?_;refine e_d ?_;refine ahR (z:=(tx " ").s) (aV " ") ?_;refine j6 ?_;refine ajT ?_;refine nM ?_;refine aX (bA (by rfl)) ?_;refine fW ?_;refine amu (e:=Enc.enc) (ε':=Empty) (xs:=(deed.ps:(List Un))) [dv deed,none] (λ i3=>[dv deed,dv i3]) [dv deed,none] XV (fY (dH aO)) (λ i3=>jA) (λ i3=>?_) (fY (dH aO)) (λ l4=>?_)
  ·refine ajL ?_;refine amv ?_;refine aX yH ?_;refine aeb ?_;refine acl ?_;refine aX (aW (by rfl)) ?_;refine jX (p:=strU i3) (f:=Enc.enc) (akq _) (λ x5=>?_);exact tW rfl (fY (dH aO))
  refine fW ?_;refine jX (p:=joinT (tx " ") l4) (f:=Enc.enc) (ah2 _ _) (λ w6=>?_);exact yG rfl (dH aO)
 refine lD ?_;refine aZ ?_;refine s_ret ?_;refine e_d ?_;refine ahR (z:=(tx " ").s) (aV " ") ?_;refine j6 ?_;refine rF ?_;refine j6 ?_;refine rF ?_;refine j6 ?_;refine rF ?_;refine j6 ?_;refine rF ?_;refine j6 ?_;refine ajT ?_;refine nM ?_;refine j6 ?_;refine ao3 ?_;refine aX (aW (by rfl)) ?_;refine aX ad7 ?_;refine aX (wG (wF (z:=(Enc.enc ((-2:Int):Int))) (jr (d:=Enc.enc (2:Int))) rfl)) ?_;refine jX (p:=cutU deed none (some (-2:Int))) (f:=λ z=>S.d (Enc.enc z)) (ah0 _ _ _) (λ w7=>?_);refine fW ?_;refine fW ?_;refine amu (e:=Enc.enc) (ε':=Empty) (xs:=(w7.ps:(List Un))) [dv deed,none] (λ i8=>[dv deed,dv i8]) [dv deed,none] XV (fY (dH aO)) (λ i8=>jA) (λ i8=>?_) (fY (dH aO)) (λ l9=>?_)
 ·refine ajL ?_;refine amv ?_;refine aX yH ?_;refine aeb ?_;refine acl ?_;refine aX (aW (by rfl)) ?_;refine jX (p:=strU i8) (f:=Enc.enc) (akq _) (λ x10=>?_);exact tW rfl (fY (dH aO))
 refine fW ?_;refine aX (qm (t8 (bO (aV "+") lE) (ln (n:=1) rfl))) ?_;refine jX (p:=catT l9 (([(tx "+")]:List Tx):(List Tx))) (f:=(λ z=>S.ol (List.map Enc.enc z))) (aak l9 (([(tx "+")]:List Tx):(List Tx))) (λ x11=>?_);refine fW ?_;refine qp (by rfl) ?_;refine aX (wF (z:=(Enc.enc ((-2:Int):Int))) (jr (d:=Enc.enc (2:Int))) rfl) ?_;refine aX (aW (by rfl)) ?_;refine jX (p:=atI deed.ps (-2:Int)) (f:=Enc.enc) (ag7 deed (-2:Int)) (λ x12=>?_);rcases hhu13:x12 with u13 | u13 | u13 | _;exact tX;exact tX;rotate_left;exact tX;refine vK ?_;refine jX (p:=catT x11 u13) (f:=(λ z=>S.ol (List.map Enc.enc z))) (aak x11 u13) (λ x14=>?_);refine fW ?_;refine aX (qm (t8 (bO (aV "-") lE) (ln (n:=1) rfl))) ?_;refine jX (p:=catT x14 (([(tx "-")]:List Tx):(List Tx))) (f:=(λ z=>S.ol (List.map Enc.enc z))) (aak x14 (([(tx "-")]:List Tx):(List Tx))) (λ x15=>?_);refine fW ?_;refine qp (by rfl) ?_;refine aX (wF (z:=(Enc.enc ((-1:Int):Int))) (jr (d:=Enc.enc (1:Int))) rfl) ?_;refine aX (aW (by rfl)) ?_;refine jX (p:=atI deed.ps (-1:Int)) (f:=Enc.enc) (ag7 deed (-1:Int)) (λ x16=>?_);rcases hhu17:x16 with u17 | u17 | u17 | _;exact tX;exact tX;rotate_left;exact tX;refine vK ?_;refine jX (p:=catT x15 u17) (f:=(λ z=>S.ol (List.map Enc.enc z))) (aak x15 u17) (λ x18=>?_);refine fW ?_;refine jX (p:=joinT (tx " ") x18) (f:=Enc.enc) (ah2 _ _) (λ w19=>?_);exact yG rfl (dH aO)
def bH (word:Tx):T Empty (Tx) :=
 (lF word).bind λ r1 =>
 if(!r1)=true then(.no) else(.ok word)
theorem kY (word:Tx):SK [dv word] Lw.cD (bH word) (λ r=>(S.d (Enc.enc r))) (λ r=>[none]) XV:=by
 unfold Lw.cD Lw.oK bH;refine rQ (X':=XV) ?_ cO;show SK [dv word] _ _ _ _ _;refine dY ?_;refine tY ?_;refine abU ?_;refine e_B ?_;refine j6 ?_;refine bL ?_;refine a_d ?_;refine aX (bA (by rfl)) ?_;refine fP ?_;refine bM List.nodup_nil rfl (aen word) cO ?_;rintro r1;show SK [dv word] _ _ _ _ _;refine fW ?_;refine fW ?_;refine tZ (x:=(!r1)) ?_ ?_;exact km;refine lD ?_;refine aZ ?_;refine s_ret ?_;refine yF (by rfl) (by intro _ h;cases h) ?_;exact yG rfl (dH aO)
def bU (word:Tx):T Empty (Int) :=
 (T.ofO (lenT word)).bind λ x1 =>
 if(decide (x1 < (1:Int)))=true then(.no) else((T.ofO (lenT word)).bind λ x2 =>
 if(decide ((9:Int) < x2))=true then(.no) else((((T.ofO (txAt word (0:Int))).bind λ x4 =>
 if(decide (x4=(tx "0")))=true then((T.ofO (lenT word)).bind λ x5 =>
 .ok (decide ((1:Int) < x5))) else(.ok false):T Empty (Bool))).bind λ b3 =>
 if b3=true then(.no) else((T.forM (signsT word) (():Unit) (λ(i6:Tx) _=>(((T.ofO (ninTx i6 (tx "0123456789"))).bind λ x7 =>
 if x7=true then(.no) else(.ok ())):T Empty (Unit)))).bind λ _ =>
 (T.ofO (intT word)).bind λ x8 =>
 .ok x8)))
theorem rR (word:Tx):SK [dv word] Lw.eX (bU word) (λ r=>(S.d (Enc.enc r))) (λ r=>[none]) XV:=by
 unfold Lw.eX Lw.mW bU;refine rQ (X':=XV) ?_ cO;show SK [dv word,none] _ _ _ _ _;refine dY ?_;refine tY ?_;refine abW ?_;refine e_B ?_;refine rF ?_;refine acl ?_;refine aX (aW (by rfl)) ?_;refine jX (p:=lenT word) (f:=Enc.enc) (ad4 _) (λ x1=>?_);refine aX (jr (d:=Enc.enc (1:Int))) ?_;refine e_o (z:=(Enc.enc ((decide (x1 < (1:Int))):Bool))) rfl ?_;refine fW ?_;refine akS (x:=(decide (x1 < (1:Int)))) ?_ ?_
 ·refine vG ?_;exact km
 refine abW ?_;refine e_B ?_;refine rF ?_;refine acl ?_;refine aX (aW (by rfl)) ?_;refine jX (p:=lenT word) (f:=Enc.enc) (ad4 _) (λ x2=>?_);refine aX (jr (d:=Enc.enc (9:Int))) ?_;refine e_o (z:=(Enc.enc ((decide ((9:Int) < x2)):Bool))) rfl ?_;refine fW ?_;refine akS (x:=(decide ((9:Int) < x2))) ?_ ?_
 ·refine vG ?_;exact km
 refine aoy (F1:=(λ p=>p)) (B1:=λ p=>[dv word,none]) ?_ ?_
 ·refine ajL ?_;refine ams ?_;refine e_B ?_;refine rF ?_;refine qp (by rfl) ?_;refine aX (jr (d:=Enc.enc (0:Int))) ?_;refine aX (aW (by rfl)) ?_;refine jX (p:=txAt word (0:Int)) (f:=Enc.enc) (aph word (0:Int)) (λ x4=>?_);refine aX (aV "0") ?_;refine e_o (z:=(Enc.enc ((decide (x4=(tx "0"))):Bool))) (vC x4 ((tx "0"):Tx)) ?_;refine fW ?_;refine aoA (x:=(decide (x4=(tx "0")))) ?_ ?_
  ·refine e_B ?_;refine rF ?_;refine acl ?_;refine aX (aW (by rfl)) ?_;refine jX (p:=lenT word) (f:=Enc.enc) (ad4 _) (λ x5=>?_);refine aX (jr (d:=Enc.enc (1:Int))) ?_;refine e_o (z:=(Enc.enc ((decide ((1:Int) < x5)):Bool))) rfl ?_;refine fW ?_;exact tW rfl (fY (dH aO))
  exact tW rfl (fY (dH aO))
 rintro b3;show SK [dv word,none] _ _ _ _ _;refine tZ (x:=b3) ?_ ?_;exact km;refine lD ?_;refine aZ ?_;refine dY ?_;refine vD ?_;refine nM ?_;refine aX (bA (by rfl)) ?_;refine aba (x:=word) ?_;refine aea (e:=Enc.enc) (xs:=((signsT word):(List Tx))) (v:=()) (λ v=>[dv word,none]) (λ i6 v=>[dv word,dv i6]) (fY (dH aO)) (λ i6 v=>jA) (λ i6 v=>?_) (λ v=>?_)
 ·show SK [dv word,dv i6] _ _ _ _ _;refine tY ?_;refine e_B ?_;refine rF ?_;refine aX (aW (by rfl)) ?_;refine aX (aV "0123456789") ?_;refine jX (p:=ninTx i6 (tx "0123456789")) (f:=Enc.enc) (aoP _ _) (λ x7=>?_);refine fW ?_;refine tZ (x:=x7) ?_ ?_;exact km;refine lD ?_;exact tW rfl (fY (dH aO))
 show SK [dv word,none] _ _ _ _ _;refine aZ ?_;refine s_ret ?_;refine e_d ?_;refine acl ?_;refine aX (aW (by rfl)) ?_;refine jX (p:=intT word) (f:=Enc.enc) (aoQ _) (λ x8=>?_);exact yG rfl (dH aO)
def dX (words:(List Tx))(form:Tx):T Empty ((List Un)) :=
 (T.ofO (lenT form)).bind λ x1 =>
 if(!(decide ((((List.length words:Nat):Int):Int)=x1)))=true then(.no) else((T.forM (List.zip words (signsT form)) (([]:List Un):(List Un)) (λ(i2:(Tx×Tx)) parts4=>((if(decide (i2.2=(tx "a")))=true then((bH i2.1).bind λ r5 =>
 T.gd (parts4.length < sizeLine) <|
 .ok (parts4++[(Un.t r5)])) else((bU i2.1).bind λ r6 =>
 T.gd (parts4.length < sizeLine) <|
 .ok (parts4++[(Un.i r6)]))):T Empty ((List Un))))).bind λ parts4 =>
 .ok parts4)
theorem nW (words:(List Tx))(form:Tx):SK [dv words,dv form] Lw.dN (dX words form) (λ r=>(S.ol (List.map Enc.enc r))) (λ r=>[none,none]) XV:=by
 unfold Lw.dN Lw.nH dX;refine rQ (X':=XV) ?_ cO;show SK [dv words,dv form,none,none,none] _ _ _ _ _;refine dY ?_;refine tY ?_;refine e_B ?_;refine rF ?_;refine aX (wF (z:=(Enc.enc ((List.length words:Nat):Int))) (aW (by rfl)) (agQ _)) ?_;refine acl ?_;refine aX (aW (by rfl)) ?_;refine jX (p:=lenT form) (f:=Enc.enc) (ad4 _) (λ x1=>?_);refine e_o (z:=(Enc.enc ((!(decide ((((List.length words:Nat):Int):Int)=x1))):Bool))) (ad1 (((List.length words:Nat):Int):Int) x1) ?_;refine fW ?_;refine tZ (x:=(!(decide ((((List.length words:Nat):Int):Int)=x1)))) ?_ ?_;exact km;refine lD ?_;refine aZ ?_;refine dY ?_;refine s_asg ?_;refine aX (t8 lE (ln (n:=0) rfl)) ?_;refine jo rfl ?_;refine aZ ?_;refine dY ?_;refine vD ?_;refine api ?_;refine aX (bO (bA (by rfl)) (bO (bA (by rfl)) lE)) ?_;refine aoR (xs:=words) (y:=form) ?_;refine aea (e:=Enc.enc) (xs:=((List.zip words (signsT form)):(List (Tx×Tx)))) (v:=([]:List Un)) (λ v=>[dv words,dv form,lv v,none,none]) (λ i2 v=>[dv words,dv form,lv v,dv i2.1,dv i2.2]) (jN (dH aO)) (λ i2 v=>(amo (aa9 jA (aa9 jA ajM)) rfl)) (λ i2 v=>?_) (λ v=>?_)
 ·revert v;intro parts4;show SK [dv words,dv form,lv parts4,dv i2.1,dv i2.2] _ _ _ _ _;refine s_if (x:=(decide (i2.2=(tx "a")))) (ajQ (aal (z:=(Enc.enc ((decide (i2.2=(tx "a"))):Bool))) (aW (by rfl)) (aV "a") (vC i2.2 ((tx "a"):Tx)))) ?_ ?_
  ·refine s_drop ?_;refine agS (by rfl) ?_;refine j6 ?_;refine bL ?_;refine a_d ?_;refine aX (bA (by rfl)) ?_;refine fP ?_;refine bM List.nodup_nil rfl (kY i2.1) cO ?_;rintro r5;show SK [dv words,dv form,lv parts4,dv i2.1,dv i2.2] _ _ _ _ _;refine fW ?_;refine agT (xs:=parts4) (x:=((Un.t r5):Un)) (by rfl) rfl ?_;exact tW rfl (jN (dH aO))
  refine s_drop ?_;refine agS (by rfl) ?_;refine j6 ?_;refine bL ?_;refine a_d ?_;refine aX (bA (by rfl)) ?_;refine fP ?_;refine bM List.nodup_nil rfl (rR i2.1) cO ?_;rintro r6;show SK [dv words,dv form,lv parts4,dv i2.1,dv i2.2] _ _ _ _ _;refine fW ?_;refine agT (xs:=parts4) (x:=((Un.i r6):Un)) (by rfl) rfl ?_;exact tW rfl (jN (dH aO))
 revert v;intro parts4;show SK [dv words,dv form,lv parts4,none,none] _ _ _ _ _;refine aZ ?_;refine s_ret ?_;refine yF (by rfl) (by intro _ h;cases h) ?_;exact yG rfl (dH (dH aO))
def fV (words:(List Tx)):T Empty (SidesT) :=
 if(decide (((List.length words:Nat):Int) < (2:Int)))=true then(.no) else((T.ofO (atI words (0:Int))).bind λ x1 =>
 if(!(decide (x1=(tx "+"))))=true then(.no) else(if(!(decide (((cntT words ((tx "-"):Tx)):Int)=(1:Int))))=true then(.no) else((T.ofO (idxT words ((tx "-"):Tx))).bind λ x2 =>
 (T.lcsR (cutT words (some (1:Int)) (some x2)) (λ(i3:Tx)=>(((bH i3).bind λ r5 =>
 .ok (some r5)):T Empty (Option Tx)))).bind λ l4 =>
 (T.lcsR (cutT words (some (x2+(1:Int))) none) (λ(i6:Tx)=>(((bH i6).bind λ r8 =>
 .ok (some r8)):T Empty (Option Tx)))).bind λ l7 =>
 .ok (SidesT.mk l4 l7))))
theorem uG (words:(List Tx)):SK [dv words] Lw.fM (fV words) (λ r=>(sidesS r)) (λ r=>[none]) XV:=by
 unfold Lw.fM Lw.nJ fV;refine rQ (X':=XV) ?_ cO;show SK [dv words,none,none,none,none] _ _ _ _ _;refine dY ?_;refine tY ?_;refine abW ?_;refine aX (ajQ (aal (z:=(Enc.enc ((decide (((List.length words:Nat):Int) < (2:Int))):Bool))) (wF (z:=(Enc.enc ((List.length words:Nat):Int))) (aW (by rfl)) (agQ _)) (jr (d:=Enc.enc (2:Int))) rfl)) ?_;refine akS (x:=(decide (((List.length words:Nat):Int) < (2:Int)))) ?_ ?_
 ·refine vG ?_;exact km
 refine abW ?_;refine e_B ?_;refine rF ?_;refine qp (by rfl) ?_;refine aX (jr (d:=Enc.enc (0:Int))) ?_;refine aX (aW (by rfl)) ?_;refine jX (p:=atI words (0:Int)) (f:=Enc.enc) (ad5 words (0:Int)) (λ x1=>?_);refine aX (aV "+") ?_;refine e_o (z:=(Enc.enc ((!(decide (x1=(tx "+")))):Bool))) (ad1 x1 ((tx "+"):Tx)) ?_;refine fW ?_;refine akS (x:=(!(decide (x1=(tx "+"))))) ?_ ?_
 ·refine vG ?_;exact km
 refine e_B ?_;refine rF ?_;refine ajS (aW (by rfl)) ?_;refine aX (aV "-") ?_;refine e_o (z:=Enc.enc (cntT words ((tx "-"):Tx))) (aj3 _ _) ?_;refine aX (jr (d:=Enc.enc (1:Int))) ?_;refine e_o (z:=(Enc.enc ((!(decide (((cntT words ((tx "-"):Tx)):Int)=(1:Int)))):Bool))) (ad1 ((cntT words ((tx "-"):Tx)):Int) ((1:Int))) ?_;refine fW ?_;refine tZ (x:=(!(decide (((cntT words ((tx "-"):Tx)):Int)=(1:Int))))) ?_ ?_;exact km;refine lD ?_;refine aZ ?_;refine dY ?_;refine s_asg ?_;refine e_d ?_;refine akr ?_;refine aX (aW (by rfl)) ?_;refine aks (xs:=words) ?_;refine aX (aV "-") ?_;refine jX (p:=idxT words ((tx "-"):Tx)) (f:=Enc.enc) (aoO _ _) (λ x2=>?_);refine jo rfl ?_;refine aZ ?_;refine dY ?_;refine s_asg ?_;refine ah5 ?_;refine nM ?_;refine aX (qm (ad8 (aW (by rfl)) (wG (jr (d:=Enc.enc (1:Int)))) (wG (bA (by rfl))) (ad6 _ _ _))) ?_;refine fW ?_;refine ah7 (e:=Enc.enc) (xs:=((cutT words (some (1:Int)) (some x2)):(List Tx))) [dv words,dv x2,none,none,none] (λ i3=>[dv words,dv x2,none,none,dv i3]) [dv words,dv x2,none,none,none] (λ _=>[none,none,none,none,none]) (aai (dH aO)) (λ i3=>jA) (λ i3=>?_) (aai (dH aO)) (λ z=>z.elim) (λ l4=>?_)
 ·refine ajL ?_;refine amv ?_;refine aX yH ?_;refine aeb ?_;refine j6 ?_;refine bL ?_;refine a_d ?_;refine aX (bA (by rfl)) ?_;refine fP ?_;refine bM List.nodup_nil rfl (kY i3) cO ?_;rintro r5;show SK [dv words,dv x2,none,none,dv i3] _ _ _ _ _;refine fW ?_;exact tW rfl (aai (dH aO))
 refine jo rfl ?_;refine aZ ?_;refine dY ?_;refine s_asg ?_;refine ah5 ?_;refine nM ?_;refine aX (qm (ad8 (aW (by rfl)) (wG (aoz (aal (z:=(S.d (Enc.enc (x2+(1:Int))))) (bA (by rfl)) (jr (d:=Enc.enc (1:Int))) rfl))) ad7 (ad6 _ _ _))) ?_;refine fW ?_;refine ah7 (e:=Enc.enc) (xs:=((cutT words (some (x2+(1:Int))) none):(List Tx))) [dv words,dv x2,lv l4,none,none] (λ i6=>[dv words,dv x2,lv l4,none,dv i6]) [dv words,dv x2,lv l4,none,none] (λ _=>[none,none,none,none,none]) (jN (dH aO)) (λ i6=>jA) (λ i6=>?_) (jN (dH aO)) (λ z=>z.elim) (λ l7=>?_)
 ·refine ajL ?_;refine amv ?_;refine aX yH ?_;refine aeb ?_;refine j6 ?_;refine bL ?_;refine a_d ?_;refine aX (bA (by rfl)) ?_;refine fP ?_;refine bM List.nodup_nil rfl (kY i6) cO ?_;rintro r8;show SK [dv words,dv x2,lv l4,none,dv i6] _ _ _ _ _;refine fW ?_;exact tW rfl (jN (dH aO))
 refine jo rfl ?_;refine aZ ?_;refine s_ret ?_;refine aoF ?_;refine ao6 ?_;refine yF (by rfl) (by intro _ h;cases h) ?_;refine ao6 ?_;refine yF (by rfl) (by intro _ h;cases h) ?_;refine amE ?_;refine aoG (ss:=[S.ol (List.map Enc.enc l4),S.ol (List.map Enc.enc l7)]) (by rfl) (by show 2<=sizeLine;rw[sizeLine_eq];decide) ?_;exact yG rfl (dH aO)
def bJ (text:Tx):T Empty (DeedT) :=
 (T.ofO (splitT text ((tx " "):Tx))).bind λ w1 =>
 (T.ofO (atI w1 (0:Int))).bind λ x2 =>
 if(!((List.lookup x2.s ([("come","abb"),("rise","abb"),("die","aba"),("penance","a"),("bring","ab"),("give","baab"),("pay","aabb"),("claim","abbb"),("wergild","aabbb"),("accuse","babb")]:List (Str×Str))).isSome))=true then(.no) else((T.ofO (atI w1 (0:Int))).bind λ x3 =>
 (T.ofO (tabT ([("come","abb"),("rise","abb"),("die","aba"),("penance","a"),("bring","ab"),("give","baab"),("pay","aabb"),("claim","abbb"),("wergild","aabbb"),("accuse","babb")]:List (Str×Str)) x3)).bind λ x4 =>
 (T.ofO (atI w1 (0:Int))).bind λ x5 =>
 if(!(memT x5 ((Kt.mk ["claim","wergild","accuse"])).ts))=true then((T.ofO (atI w1 (0:Int))).bind λ x6 =>
 (dX ((cutT w1 (some (1:Int)) none):(List Tx)) x4).bind λ r7 =>
 (T.ofO (catT (([(Un.t x6)]:List Un):(List Un)) r7)).bind λ x8 =>
 T.gd (nlU ((DeedT.mk x8):DeedT).ps=true) <|
 .ok (DeedT.mk x8)) else((T.ofO (lenT x4)).bind λ x9 =>
 (T.ofO (atI w1 (0:Int))).bind λ x10 =>
 (dX ((cutT w1 (some (1:Int)) (some ((1:Int)+x9))):(List Tx)) x4).bind λ r11 =>
 (T.ofO (catT (([(Un.t x10)]:List Un):(List Un)) r11)).bind λ x12 =>
 (fV ((cutT w1 (some ((1:Int)+x9)) none):(List Tx))).bind λ r13 =>
 T.gd (nlU x12=true/\(List.length x12)+2<=sizeLine) <|
 .ok (DeedT.mk (x12++[Un.l r13.apF,Un.l r13.apE]))))
theorem oW (text:Tx):SK [dv text] Lw.fB (bJ text) (λ r=>(deedS r)) (λ r=>[none]) XV:=by
 unfold Lw.fB Lw.oM bJ;refine rQ (X':=XV) ?_ cO;show SK [dv text,none,none,none] _ _ _ _ _;refine dY ?_;refine s_asg ?_;refine akm ?_;refine aX (bA (by rfl)) ?_;refine akn (x:=text) ?_;refine aX (aV " ") ?_;refine jX (p:=splitT text ((tx " "):Tx)) (f:=λ z=>S.ol (List.map Enc.enc z)) (akl (by decide) (by decide)) (λ w1=>?_);refine jo rfl ?_;refine aZ ?_;refine dY ?_;refine tY ?_;refine e_B ?_;refine acl ?_;refine qp (by rfl) ?_;refine aX (jr (d:=Enc.enc (0:Int))) ?_;refine aX (jh (by rfl)) ?_;refine jX (p:=atI w1 (0:Int)) (f:=Enc.enc) (ad5 w1 (0:Int)) (λ x2=>?_);refine e_o (z:=(Enc.enc ((!((List.lookup x2.s ([("come","abb"),("rise","abb"),("die","aba"),("penance","a"),("bring","ab"),("give","baab"),("pay","aabb"),("claim","abbb"),("wergild","aabbb"),("accuse","babb")]:List (Str×Str))).isSome)):Bool))) rfl ?_;refine fW ?_;refine tZ (x:=(!((List.lookup x2.s ([("come","abb"),("rise","abb"),("die","aba"),("penance","a"),("bring","ab"),("give","baab"),("pay","aabb"),("claim","abbb"),("wergild","aabbb"),("accuse","babb")]:List (Str×Str))).isSome))) ?_ ?_;exact km;refine lD ?_;refine aZ ?_;refine dY ?_;refine s_asg ?_;refine e_d ?_;refine acl ?_;refine qp (by rfl) ?_;refine aX (jr (d:=Enc.enc (0:Int))) ?_;refine aX (jh (by rfl)) ?_;refine jX (p:=atI w1 (0:Int)) (f:=Enc.enc) (ad5 w1 (0:Int)) (λ x3=>?_);refine jX (p:=tabT ([("come","abb"),("rise","abb"),("die","aba"),("penance","a"),("bring","ab"),("give","baab"),("pay","aabb"),("claim","abbb"),("wergild","aabbb"),("accuse","babb")]:List (Str×Str)) x3) (f:=Enc.enc) (aoK (by decide) _) (λ x4=>?_);refine jo rfl ?_;refine aZ ?_;refine dY ?_;refine tY ?_;refine e_B ?_;refine rF ?_;refine qp (by rfl) ?_;refine aX (jr (d:=Enc.enc (0:Int))) ?_;refine aX (jh (by rfl)) ?_;refine jX (p:=atI w1 (0:Int)) (f:=Enc.enc) (ad5 w1 (0:Int)) (λ x5=>?_);refine aX (jr (d:=Enc.enc (Kt.mk ["claim","wergild","accuse"]))) ?_;refine e_o (z:=(Enc.enc ((!(memT x5 ((Kt.mk ["claim","wergild","accuse"])).ts)):Bool))) (abn x5 (Kt.mk ["claim","wergild","accuse"])) ?_;refine fW ?_;refine tZ (x:=(!(memT x5 ((Kt.mk ["claim","wergild","accuse"])).ts))) ?_ ?_
 ·refine s_ret ?_;refine apk ?_;refine acl ?_;refine j6 ?_;refine rF ?_;refine j6 ?_;refine ajK ?_;refine yE ?_;refine qp (by rfl) ?_;refine aX (jr (d:=Enc.enc (0:Int))) ?_;refine aX (jh (by rfl)) ?_;refine jX (p:=atI w1 (0:Int)) (f:=Enc.enc) (ad5 w1 (0:Int)) (λ x6=>?_);refine aX lE ?_;refine adY (lnS (n:=1) rfl) ?_;refine fW ?_;refine fW ?_;refine j6 ?_;refine bL ?_;refine a_d ?_;refine aX (qm (ad8 (jh (by rfl)) (wG (jr (d:=Enc.enc (1:Int)))) ad7 (ad6 _ _ _))) ?_;refine a_d ?_;refine aX (bA (by rfl)) ?_;refine fP ?_;refine bM List.nodup_nil rfl (nW ((cutT w1 (some (1:Int)) none)) x4) cO ?_;rintro r7;show SK [dv text,lv w1,dv x4,none] _ _ _ _ _;refine fW ?_;refine jX (p:=catT (([(Un.t x6)]:List Un):(List Un)) r7) (f:=(λ z=>S.ol (List.map Enc.enc z))) (aak (([(Un.t x6)]:List Un):(List Un)) r7) (λ x8=>?_);refine fW ?_;refine e_o (z:=(Enc.enc (DeedT.mk x8))) (ah3 _) ?_;refine apl (d:=((DeedT.mk x8):DeedT)) ?_;exact yG rfl (dH aO)
 refine lD ?_;refine aZ ?_;refine dY ?_;refine s_asg ?_;refine rF ?_;refine aX (jr (d:=Enc.enc (1:Int))) ?_;refine acl ?_;refine aX (aW (by rfl)) ?_;refine jX (p:=lenT x4) (f:=Enc.enc) (ad4 _) (λ x9=>?_);refine e_o (z:=(S.d (Enc.enc ((1:Int)+x9:Int)))) rfl ?_;refine jo rfl ?_;refine aZ ?_;refine s_ret ?_;refine ahv ?_;refine j6 ?_;refine rF ?_;refine j6 ?_;refine ajK ?_;refine yE ?_;refine qp (by rfl) ?_;refine aX (jr (d:=Enc.enc (0:Int))) ?_;refine aX (jh (by rfl)) ?_;refine jX (p:=atI w1 (0:Int)) (f:=Enc.enc) (ad5 w1 (0:Int)) (λ x10=>?_);refine aX lE ?_;refine adY (lnS (n:=1) rfl) ?_;refine fW ?_;refine fW ?_;refine j6 ?_;refine bL ?_;refine a_d ?_;refine aX (qm (ad8 (jh (by rfl)) (wG (jr (d:=Enc.enc (1:Int)))) (wG (bA (by rfl))) (ad6 _ _ _))) ?_;refine a_d ?_;refine aX (bA (by rfl)) ?_;refine fP ?_;refine bM List.nodup_nil rfl (nW ((cutT w1 (some (1:Int)) (some ((1:Int)+x9)))) x4) cO ?_;rintro r11;show SK [dv text,lv w1,dv x4,dv (((1:Int)+x9):Int)] _ _ _ _ _;refine fW ?_;refine jX (p:=catT (([(Un.t x10)]:List Un):(List Un)) r11) (f:=(λ z=>S.ol (List.map Enc.enc z))) (aak (([(Un.t x10)]:List Un):(List Un)) r11) (λ x12=>?_);refine fW ?_;refine bL ?_;refine a_d ?_;refine aX (qm (ad8 (jh (by rfl)) (wG (bA (by rfl))) ad7 (ad6 _ _ _))) ?_;refine fP ?_;refine bM List.nodup_nil rfl (uG ((cutT w1 (some ((1:Int)+x9)) none))) cO ?_;rintro r13;show SK [dv text,lv w1,dv x4,dv (((1:Int)+x9):Int)] _ _ _ _ _;refine ahw (us:=x12) (w:=r13) ?_;exact yG rfl (dH aO)
def lM (apJ:List Int):T Empty (Bool) :=
 (aed apJ).bind λ r1 =>
 (jO r1 ((6:Int))).bind λ(r2,src3) =>
 (ug src3 (((1:Int)+r2):Int)).bind λ(r4,src5) =>
 T.gd (inR (3:Int)) <|
 T.bindL (T.forL (rangeT (Int.toNat (3:Int))) (src5:SrcT) (λ(i6:Int) src8=>(((gW src8 r4).bind λ(r9,src10) =>
 T.gd (r9.ps.length<=sizeLine) <|
 (jW r9).bind λ r11 =>
 (cW r9).bind λ r12 =>
 (jR ((Enc.enc r12:D):D) ((Enc.enc r11:D):D)).bind λ r13 =>
 if(!r13)=true then(.ok (.rt false)) else((jR ((Enc.enc r9:D):D) ((Enc.enc r9:D):D)).bind λ r14 =>
 if(!r14)=true then(.ok (.rt false)) else((bJ r11).bind λ r15 =>
 (T.nv (((jR ((Enc.enc r15:D):D) ((Enc.enc r9:D):D)).bind λ r17 =>
 .ok r17):T Empty (Bool))).bind λ y16 =>
 if(!y16)=true then(.ok (.rt false)) else(T.gd (grwOk r15=true) <|
 (bJ r11).bind λ r18 =>
 (jR ((Enc.enc r18:D):D) ((Enc.enc r9:D):D)).bind λ r19 =>
 if(!r19)=true then(.ok (.rt false)) else((cW r9).bind λ r20 =>
 (jR ((Enc.enc r20:D):D) ((Enc.enc r11:D):D)).bind λ r21 =>
 if(!r21)=true then(.ok (.rt false)) else(.ok (.nx src10))))))):T Empty (T.Lp (SrcT) (Bool))))) (λ src8 =>
 .ok true) (λ r_=>.ok r_)
theorem ace (apJ:List Int):SK [some (.scr apJ)] Lw.jd (lM apJ) (λ r=>(S.d (Enc.enc r))) (λ r=>[some (.scr apJ)]) XV:=by
 unfold Lw.jd Lw.vA lM;refine rQ (X':=XV) ?_ cO;show SK [some (.scr apJ),none,none,none,none,none,none,none,none] _ _ _ _ _;refine dY ?_;refine s_asg ?_;refine bL ?_;refine a_r (by rfl) ?_;refine fP ?_;refine bM (by show List.Nodup [0];decide) rfl (aoB apJ) cO ?_;rintro r1;show SK [some (.scr apJ),none,none,none,none,none,none,none,none] _ _ _ _ _;refine jo rfl ?_;refine aZ ?_;refine dY ?_;refine s_asg ?_;refine e_d ?_;refine j6 ?_;refine bL ?_;refine a_r (by rfl) ?_;refine a_d ?_;refine j6 ?_;refine rF ?_;refine aX (jr (d:=Enc.enc (1:Int))) ?_;refine j6 ?_;refine bL ?_;refine a_r (by rfl) ?_;refine a_d ?_;refine aX (jr (d:=Enc.enc (6:Int))) ?_;refine fP ?_;refine bM (by show List.Nodup [1];decide) rfl (oN r1 ((6:Int))) cO ?_;rintro⟨r2,src3⟩;show SK [some (.scr apJ),some src3.1,none,none,none,none,none,none,none] _ _ _ _ _;refine fW ?_;refine e_o (z:=(S.d (Enc.enc ((1:Int)+r2:Int)))) rfl ?_;refine fW ?_;refine fP ?_;refine bM (by show List.Nodup [1];decide) rfl (ajW src3 (((1:Int)+r2))) cO ?_;rintro⟨r4,src5⟩;show SK [some (.scr apJ),some src5.1,none,none,none,none,none,none,none] _ _ _ _ _;refine fW ?_;refine jo rfl ?_;refine aZ ?_;refine dY ?_;refine vD ?_;refine ahT ?_;refine aX (bO (jr (d:=Enc.enc (3:Int))) lE) ?_;refine ahU (n:=(3:Int)) ?_;refine amt (e:=Enc.enc) (xs:=((rangeT (Int.toNat (3:Int))):(List Int))) (v:=(src5:SrcT)) (λ v=>[some (.scr apJ),some v.1,dv r4,none,none,none,none,none,none]) (λ r=>[some (.scr apJ),none,none,none,none,none,none,none,none]) (λ(r:Bool)=>(S.d (Enc.enc r))) (λ i6 v=>[some (.scr apJ),some v.1,dv r4,dv i6,none,none,none,none,none]) (jN (mD (dH aO))) (λ i6 v=>jA) (λ i6 v=>?_) (λ v=>?_) (λ r=>?_)
 ·revert v;intro src8;show SK [some (.scr apJ),some src8.1,dv r4,dv i6,none,none,none,none,none] _ _ _ _ _;refine dY ?_;refine s_asg ?_;refine e_d ?_;refine j6 ?_;refine bL ?_;refine a_r (by rfl) ?_;refine a_r (by rfl) ?_;refine fP ?_;refine bM (by show List.Nodup [1,2];decide) rfl (uV src8 r4) cO ?_;rintro⟨r9,src10⟩;show SK [some (.scr apJ),some src10.1,dv r4,dv i6,none,none,none,none,none] _ _ _ _ _;refine fW ?_;refine jo rfl ?_;refine aZ ?_;refine dY ?_;refine s_asg ?_;refine e_d ?_;refine amG ?_;refine am5 (d:=r9) (A1:=[some (.scr apJ),some src10.1,dv r4,dv i6,dv r9,none,none,none,none]) (by rfl) (Nat.le_of_ble_eq_true rfl) rfl ?_;refine abm (d:=r9) ?_;refine jo rfl ?_;refine aZ ?_;refine dY ?_;refine s_asg ?_;refine e_d ?_;refine j6 ?_;refine bL ?_;refine a_d ?_;refine aX (bA (by rfl)) ?_;refine fP ?_;refine bM List.nodup_nil rfl (aaC r9) cO ?_;rintro r11;show SK [some (.scr apJ),some src10.1,dv r4,dv i6,dv r9,dv r9,none,none,none] _ _ _ _ _;refine fW ?_;refine jo rfl ?_;refine aZ ?_;refine dY ?_;refine tY ?_;refine abW ?_;refine abU ?_;refine e_B ?_;refine j6 ?_;refine bL ?_;refine a_d ?_;refine j6 ?_;refine bL ?_;refine a_d ?_;refine aX (bA (by rfl)) ?_;refine fP ?_;refine bM List.nodup_nil rfl (rM r9) cO ?_;rintro r12;show SK [some (.scr apJ),some src10.1,dv r4,dv i6,dv r9,dv r9,dv r11,none,none] _ _ _ _ _;refine fW ?_;refine a_d ?_;refine aX (bA (by rfl)) ?_;refine fP ?_;refine bM List.nodup_nil rfl (uo ((Enc.enc r12:D)) ((Enc.enc r11:D))) cO ?_;rintro r13;show SK [some (.scr apJ),some src10.1,dv r4,dv i6,dv r9,dv r9,dv r11,none,none] _ _ _ _ _;refine fW ?_;refine fW ?_;refine akS (x:=(!r13)) ?_ ?_
  ·refine vG ?_;refine s_ret ?_;refine aX (agR (jr (d:=Enc.enc false))) ?_;exact tW rfl (tV (mD (dH aO)))
  refine abU ?_;refine e_B ?_;refine j6 ?_;refine bL ?_;refine a_d ?_;refine aX (bA (by rfl)) ?_;refine a_d ?_;refine aX (bA (by rfl)) ?_;refine fP ?_;refine bM List.nodup_nil rfl (uo ((Enc.enc r9:D)) ((Enc.enc r9:D))) cO ?_;rintro r14;show SK [some (.scr apJ),some src10.1,dv r4,dv i6,dv r9,dv r9,dv r11,none,none] _ _ _ _ _;refine fW ?_;refine fW ?_;refine tZ (x:=(!r14)) ?_ ?_
  ·refine s_ret ?_;refine aX (agR (jr (d:=Enc.enc false))) ?_;exact tW rfl (tV (mD (dH aO)))
  refine lD ?_;refine aZ ?_;refine dY ?_;refine s_asg ?_;refine bL ?_;refine a_d ?_;refine aX (bA (by rfl)) ?_;refine fP ?_;refine bM List.nodup_nil rfl (oW r11) cO ?_;rintro r15;show SK [some (.scr apJ),some src10.1,dv r4,dv i6,dv r9,dv r9,dv r11,none,none] _ _ _ _ _;refine jo rfl ?_;refine aZ ?_;refine dY ?_;refine tY ?_;refine abU ?_;refine e_B ?_;refine ahu (ε':=Empty) (X1:=XV) (B1:=λ _=>[none,none,none,none,none,none,none,none,none]) (f:=λ c:Bool=>Enc.enc c) (aoT (aoT (am4 (am4 (am4 (am4 (am4 (apj (aoT am3))))))))) ?_ (λ _=>(aev _)) (λ y16=>?_)
  ·refine ajL ?_;show SK [none,none,dv r4,dv i6,dv r9,dv r9,dv r11,dv r15,none] _ _ _ _ _;refine j6 ?_;refine bL ?_;refine a_d ?_;refine aX (bA (by rfl)) ?_;refine a_d ?_;refine aX (bA (by rfl)) ?_;refine fP ?_;refine bM List.nodup_nil rfl (uo ((Enc.enc r15:D)) ((Enc.enc r9:D))) cO ?_;rintro r17;show SK [none,none,dv r4,dv i6,dv r9,dv r9,dv r11,dv r15,none] _ _ _ _ _;refine fW ?_;exact tW rfl (mD (mD (dH aO)))
  refine fW ?_;refine tZ (x:=(!y16)) ?_ ?_
  ·refine s_ret ?_;refine aX (agR (jr (d:=Enc.enc false))) ?_;exact tW rfl (tV (mD (dH aO)))
  refine lD ?_;refine aZ ?_;refine dY ?_;refine aoU (d:=r15) (A1:=[some (.scr apJ),some src10.1,dv r4,dv i6,dv r9,dv r9,dv r11,none,none]) (by rfl) (Nat.le_of_ble_eq_true rfl) rfl ?_;refine aZ ?_;refine tY ?_;refine abW ?_;refine abU ?_;refine e_B ?_;refine j6 ?_;refine bL ?_;refine a_d ?_;refine amG ?_;refine bL ?_;refine a_d ?_;refine aX (bA (by rfl)) ?_;refine fP ?_;refine bM List.nodup_nil rfl (oW r11) cO ?_;rintro r18;show SK [some (.scr apJ),some src10.1,dv r4,dv i6,dv r9,dv r9,dv r11,none,none] _ _ _ _ _;refine abm (d:=r18) ?_;refine a_d ?_;refine aX (bA (by rfl)) ?_;refine fP ?_;refine bM List.nodup_nil rfl (uo ((Enc.enc r18:D)) ((Enc.enc r9:D))) cO ?_;rintro r19;show SK [some (.scr apJ),some src10.1,dv r4,dv i6,dv r9,dv r9,dv r11,none,none] _ _ _ _ _;refine fW ?_;refine fW ?_;refine akS (x:=(!r19)) ?_ ?_
  ·refine vG ?_;refine s_ret ?_;refine aX (agR (jr (d:=Enc.enc false))) ?_;exact tW rfl (tV (mD (dH aO)))
  refine abU ?_;refine e_B ?_;refine j6 ?_;refine bL ?_;refine a_d ?_;refine j6 ?_;refine bL ?_;refine a_d ?_;refine aX (bA (by rfl)) ?_;refine fP ?_;refine bM List.nodup_nil rfl (rM r9) cO ?_;rintro r20;show SK [some (.scr apJ),some src10.1,dv r4,dv i6,dv r9,dv r9,dv r11,none,none] _ _ _ _ _;refine fW ?_;refine a_d ?_;refine aX (bA (by rfl)) ?_;refine fP ?_;refine bM List.nodup_nil rfl (uo ((Enc.enc r20:D)) ((Enc.enc r11:D))) cO ?_;rintro r21;show SK [some (.scr apJ),some src10.1,dv r4,dv i6,dv r9,dv r9,dv r11,none,none] _ _ _ _ _;refine fW ?_;refine fW ?_;refine tZ (x:=(!r21)) ?_ ?_
  ·refine s_ret ?_;refine aX (agR (jr (d:=Enc.enc false))) ?_;exact tW rfl (tV (mD (dH aO)))
  refine lD ?_;exact tW rfl (jN (mD (dH aO)))
 ·revert v;intro src8;show SK [some (.scr apJ),some src8.1,dv r4,none,none,none,none,none,none] _ _ _ _ _;refine aZ ?_;refine s_ret ?_;refine aX (agR (jr (d:=Enc.enc true))) ?_;exact yG rfl (fY aO)
 revert r;intro r_;show SK [some (.scr apJ),none,none,none,none,none,none,none,none] _ _ _ _ _;exact yG rfl (fY aO)
end Ty
namespace Ty
open PySem VS L2
section
variable {α β ν:Type}
theorem nvb {t:T Unit α}{t':T Empty α}{k:α->T Unit β}{k':α->T Empty β}(h:t'=T.nv t)(h2:∀ a,k' a=T.nv (k a)):t'.bind k'=T.nv (t.bind k):=by
 rw[h]
 cases t with
 | ok a=>exact h2 a
 | er c e=>rfl
 | no=>rfl
theorem nvif {c:Prop}[Decidable c]{t u:T Unit α}{t' u':T Empty α}(h:t'=T.nv t)(h2:u'=T.nv u):(if c then t' else u')=T.nv (if c then t else u):=by
 split
 ·exact h
 ·exact h2
theorem nvo (o:Option α):(T.ofO o:T Empty α)=T.nv (T.ofO o:T Unit α):=by cases o<;>rfl
theorem nvforM {f:α->ν->T Unit ν}{f':α->ν->T Empty ν}(h:∀ a v,f' a v=T.nv (f a v)):∀ (xs:List α) (v:ν),T.forM xs v f'=T.nv (T.forM xs v f)
 | [],_=>rfl
 | x::xs,v=>nvb (h x v) λ v'=>nvforM h xs v'
end
section
variable {arr:Dt Tx Int}{rks:List (Tp3 Tx Int Int)}{de:Des}{pe:FolkT}{br:List Oath}{pa:List (Tp3 Int Stp (Option Int))}{mo:List (ao5×Option Int)}{tr:List Suit}{td:List Int}{pn:Dt Tx Int}{to:List DeedT}
end
end Ty
namespace Ty
open PySem PySem.Spec VS L2 TL
theorem nl9 {w:Tx}{us:List Un}(h:∀ u∈us,u.isL=false):nlU ([Un.t w]++us)=true:=by
 unfold nlU;rw[List.all_eq_true];intro u hu;rcases List.mem_append.mp hu with hu | hu
 ·rw[List.mem_singleton.mp hu]
  rfl
 ·rw[h u hu]
  rfl
theorem abz {x:Tx}(h:GoodT x):bH x=.ok x:=by
 have h1:=akE h
 unfold jk at h1;unfold bH;rw[lH (gl5 h)]at h1 ⊢;rw[T.up_ok,T.ok_bind]at h1;rw[T.ok_bind]
 cases hb:Lw.isN (x.cs.map (·.val)) with
 | false=>rw[hb]at h1;cases h1
 | true=>rfl
theorem akN {n:Int}(h:numOk n):bU (nI n)=.ok n:=by
 have h1:=amX h
 have key:bU (nI n)=T.nv (eY (nI n)):=by
  unfold eY bU
  repeat' first
   | exact nvo _
   | refine nvif ?_ ?_
   | refine nvforM (λ _ _=>?_) _ _
   | refine nvb ?_ λ _=>?_
   | rfl
 rw[key,h1,T.nv_ok]
theorem uH:∀ (us:List Un) (fs:List Tx) (acc:List Un),us.length=fs.length->(∀ p∈us.zip fs,UnOk p.1/\qH p.1 p.2)->acc.length+us.length<=1000->(T.forM (List.zip (us.map strW) fs) acc (λ(i2:(Tx×Tx)) parts4=>((if(decide (i2.2=(tx "a")))=true then((bH i2.1).bind λ r5 =>
 T.gd (parts4.length < sizeLine) <|
 .ok (parts4++[(Un.t r5)])) else((bU i2.1).bind λ r6 =>
 T.gd (parts4.length < sizeLine) <|
 .ok (parts4++[(Un.i r6)]))):T Empty ((List Un)))):T Empty (List Un))=.ok (acc++us)
 | [],fs,acc,_,_,_=>by rw[List.append_nil];rfl
 | u::us,[],acc,h,_,_=>by cases h
 | u::us,f::fs,acc,h,hp,hl=>by
  obtain⟨h1,h2⟩:=hp (u,f) List.mem_cons_self;rw[List.length_cons]at hl
  have ih:=uH us fs (acc++[u]) (Nat.succ.inj h) (λ p hq=>hp p (List.mem_cons_of_mem _ hq)) (by rw[List.length_append,List.length_singleton];omega)
  rw[List.append_assoc]at ih;rw[List.map_cons,List.zip_cons_cons,jt]
  dsimp only at h1 h2 ⊢
  cases u with
  | t x =>
   rw[if_pos (decide_eq_true (show f=tx "a" from h2)),show strW (.t x)=x from rfl,abz h1,T.ok_bind,T.gd_of (by rw[sizeLine_eq];omega),T.ok_bind];exact ih
  | i n =>
   rw[if_neg (by rw[decide_eq_true_eq];exact h2),show strW (.i n)=nI n from rfl,akN h1,T.ok_bind,T.gd_of (by rw[sizeLine_eq];omega),T.ok_bind];exact ih
  | l xs=>exact h2.elim
  | o=>exact h2.elim
theorem zg {us:List Un}{fm:Tx}(h:us.length=(signsT fm).length)(hp:∀ p∈us.zip (signsT fm),UnOk p.1/\qH p.1 p.2)(hl:us.length<=100):dX (us.map strW) fm=.ok us:=by
 have hf:fm.cs.length=us.length:=by rw[h];unfold signsT;rw[List.length_map]
 unfold dX;rw[aaD (by omega),aa,if_neg (by rw[List.length_map,hf];simp),uH us (signsT fm) [] h hp (by simp;omega),List.nil_append]
 rfl
theorem vW {xs:List Tx}(hl:xs.length<=1000)(h:∀ x∈xs,GoodT x):(T.lcsR xs (λ(i3:Tx)=>(((bH i3).bind λ r5 =>
 .ok (some r5)):T Empty (Option Tx))):T Empty (List Tx))=.ok xs:=by
 rw[aku (g:=λ u=>u) (by omega) λ u hu=>by rw[abz (h u hu),T.ok_bind],List.map_id']
theorem ae4 {o p:List Tx}(ho:sideOk o)(hp:sideOk p):fV (tx "+"::(o++tx "-"::p))=.ok (SidesT.mk o p):=by
 have hol:=ho.1
 have hpl:=hp.1
 have hlen:(tx "+"::(o++tx "-"::p)).length=o.length+p.length+2:=by
  rw[List.length_cons,List.length_append,List.length_cons]
  omega
 have no1:∀ x∈o,decide (x=tx "-")=false:=λ x hx=>decide_eq_false (vU (ho.2 x hx))
 have no2:∀ x∈p,decide (x=tx "-")=false:=λ x hx=>decide_eq_false (vU (hp.2 x hx))
 have hpm:decide (tx "+"=tx "-")=false:=by decide
 have hcnt:cntT (tx "+"::(o++tx "-"::p)) (tx "-")=1:=by
  unfold cntT;rw[List.filter_cons_of_neg (by rw[hpm];decide),List.filter_append,List.filter_cons_of_pos (by simp),List.filter_eq_nil_iff.mpr λ x hx=>by rw[no1 x hx];decide,List.filter_eq_nil_iff.mpr λ x hx=>by rw[no2 x hx];decide]
  rfl
 have hidx:idxT (tx "+"::(o++tx "-"::p)) (tx "-")=some (((o.length+1:Nat):Int)):=by
  unfold idxT
  have:(tx "+"::(o++tx "-"::p)).findIdx? (λ y=>decide (y=tx "-"))=some (o.length+1):=by
   rw[List.findIdx?_cons,hpm,List.findIdx?_append,List.findIdx?_eq_none_iff.mpr λ x hx=>no1 x hx,List.findIdx?_cons]
   simp
  rw[this]
  rfl
 have c1:cutT (tx "+"::(o++tx "-"::p)) (some (1:Int)) (some (((o.length+1:Nat):Int)))=o:=by
  rw[show(1:Int)=((1:Nat):Int) from rfl,aeW (by omega) (by omega),List.drop_one,List.tail_cons,Nat.add_sub_cancel];exact List.take_left' rfl
 have c2:cutT (tx "+"::(o++tx "-"::p)) (some ((((o.length+1:Nat):Int))+1)) none=p:=by
  rw[pZ (by omega),show((((o.length+1:Nat):Int))+1).toNat=o.length+1+1 by omega];rw[List.drop_succ_cons,show o++tx "-"::p=(o++[tx "-"])++p by simp];exact List.drop_left' (by simp)
 unfold fV;rw[hlen,if_neg (by rw[decide_eq_true_eq];omega),show atI (tx "+"::(o++tx "-"::p)) (0:Int)=some (tx "+") from at0 _ _,aa,if_neg (by simp),hcnt,if_neg (by decide),hidx,aa,c1,c2,vW (by omega) ho.2,T.ok_bind,vW (by omega) hp.2,T.ok_bind]
theorem ir {e:Wd}(h:RdOk e){fm:Tx}(hin:(List.lookup (w0 e).s ([("come","abb"),("rise","abb"),("die","aba"),("penance","a"),("bring","ab"),("give","baab"),("pay","aabb"),("claim","abbb"),("wergild","aabbb"),("accuse","babb")]:List (Str×Str))).isSome=true) (htab:tabT ([("come","abb"),("rise","abb"),("die","aba"),("penance","a"),("bring","ab"),("give","baab"),("pay","aabb"),("claim","abbb"),("wergild","aabbb"),("accuse","babb")]:List (Str×Str)) (w0 e)=some fm)
  (hm:memT (w0 e) (Kt.mk ["claim","wergild","accuse"]).ts=false) (hw:wU (pU e) false=(pU e).map strW) (hl:(pU e).length=(signsT fm).length) (hf:∀ p∈(pU e).zip (signsT fm),qH p.1 p.2) (hn:(pU e).length<=10) (hnl:∀ u∈pU e,u.isL=false:=by simp[pU,Un.isL]):bJ (shw e)=.ok e.t:=by
 unfold bJ
 have a0:atI (w0 e::wU (pU e) false) (0:Int)=some (w0 e):=at0 _ _
 rw[yZ h,aa,a0,aa,hin,if_neg (by decide),aa,htab,aa,aa,hm,if_pos (by rfl),aa,pZ (by omega),show(1:Int).toNat=1 from rfl,List.drop_one,List.tail_cons,hw,
  zg hl (λ p hp=>⟨unOk h p.1 (List.of_mem_zip hp).1,hf p hp⟩) (by omega),T.ok_bind,cR (by simp;omega),aa,T.gd_of (nl9 λ u hu=>hnl u hu),qZ]
 rfl
theorem rA {e:Wd}(h:RdOk e){fm:Tx}{us:List Un}{o p:List Tx}(he:pU e=us++[.l o,.l p])(ho:sideOk o)(hp:sideOk p)(hin:(List.lookup (w0 e).s ([("come","abb"),("rise","abb"),("die","aba"),("penance","a"),("bring","ab"),("give","baab"),("pay","aabb"),("claim","abbb"),("wergild","aabbb"),("accuse","babb")]:List (Str×Str))).isSome=true) (htab:tabT ([("come","abb"),("rise","abb"),("die","aba"),("penance","a"),("bring","ab"),("give","baab"),("pay","aabb"),("claim","abbb"),("wergild","aabbb"),("accuse","babb")]:List (Str×Str)) (w0 e)=some fm)
  (hm:memT (w0 e) (Kt.mk ["claim","wergild","accuse"]).ts=true) (hw:wU (pU e) false=us.map strW++tx "+"::(o++tx "-"::p)) (hl:us.length=(signsT fm).length) (hf:∀ p∈us.zip (signsT fm),qH p.1 p.2) (hn:us.length<=10) (hnl:∀ u∈us,u.isL=false:=by simp[Un.isL]):bJ (shw e)=.ok e.t:=by
 have hfm:fm.cs.length=us.length:=by rw[hl];unfold signsT;rw[List.length_map]
 unfold bJ
 have a0:atI (w0 e::wU (pU e) false) (0:Int)=some (w0 e):=at0 _ _
 have hwl:(w0 e::wU (pU e) false).length=us.length+o.length+p.length+3:=by
  rw[hw]
  simp
  omega
 have c1:cutT (w0 e::wU (pU e) false) (some (1:Int)) (some ((1:Int)+((fm.cs.length:Nat):Int)))=us.map strW:=by
  rw[show(1:Int)+((fm.cs.length:Nat):Int)=((us.length+1:Nat):Int) by omega,show(1:Int)=((1:Nat):Int) from rfl,aeW (by omega) (by omega),List.drop_one,List.tail_cons,Nat.add_sub_cancel,hw];exact List.take_left' (by simp)
 have c2:cutT (w0 e::wU (pU e) false) (some ((1:Int)+((fm.cs.length:Nat):Int))) none=tx "+"::(o++tx "-"::p):=by
  rw[pZ (by omega),show((1:Int)+((fm.cs.length:Nat):Int)).toNat=us.length+1 by omega,List.drop_succ_cons,hw];exact List.drop_left' (by simp)
 rw[yZ h,aa,a0,aa,hin,if_neg (by decide),aa,htab,aa,aa,hm,if_neg (by decide),aaD (by omega),aa,aa,c1,c2,
  zg hl (λ q hq=>⟨unOk h q.1 (by rw[he];exact List.mem_append_left _ (List.of_mem_zip hq).1),hf q hq⟩) (by omega),T.ok_bind,cR (by simp;omega),aa,ae4 ho hp,T.ok_bind,T.gd_of ⟨nl9 λ u hu=>hnl u hu,by rw[List.length_append,List.length_singleton,sizeLine_eq];omega⟩,qZ,he]
 simp
theorem ahx {e:Wd}(h:RdOk e):bJ (shw e)=.ok e.t:=by
 cases e with
 | come n d w=>exact ir (fm:=tx "abb") h akG akH (show memT (tx "come") _=false by decide) rfl (by rw[abx];rfl) (by rw[abx];simp[pU,qH,uW]) (by simp[pU])
 | rise n d w=>exact ir (fm:=tx "abb") h akI akJ (show memT (tx "rise") _=false by decide) rfl (by rw[abx];rfl) (by rw[abx];simp[pU,qH,uW]) (by simp[pU])
 | die n d w=>exact ir (fm:=tx "aba") h amZ am0 (show memT (tx "die") _=false by decide) rfl (by rw[ah9];rfl) (by rw[ah9];simp[pU,qH,uW]) (by simp[pU])
 | penance n=>exact ir (fm:=tx "a") h ab9 aca (show memT (tx "penance") _=false by decide) rfl (by rw[ao9];rfl) (by rw[ao9];simp[pU,qH,uW]) (by simp[pU])
 | bring n d=>exact ir (fm:=tx "ab") h ahq ahr (show memT (tx "bring") _=false by decide) rfl (by rw[amY];rfl) (by rw[amY];simp[pU,qH,uW]) (by simp[pU])
 | give t a b d=>exact ir (fm:=tx "baab") h akK akL (show memT (tx "give") _=false by decide) rfl (by rw[aeZ];rfl) (by rw[aeZ];simp[pU,qH,uW]) (by simp[pU])
 | pay a b c d=>exact ir (fm:=tx "aabb") h am1 am2 (show memT (tx "pay") _=false by decide) rfl (by rw[aeX];rfl) (by rw[aeX];simp[pU,qH,uW]) (by simp[pU])
 | claim a t d x o p =>
  obtain⟨h1,h2,h3,h4,h5,h6⟩:=id h;exact rA (fm:=tx "abbb") (us:=[.t a,.i t,.i d,.i x]) h rfl h5 h6 ahs aht (show memT (tx "claim") _=true by decide) (by simp[pU,wU,strW,sgn]) (by rw[aeY];rfl) (by rw[aeY];simp[qH,uW]) (by simp)
 | wergild a b c d x o p =>
  obtain⟨h1,h2,h3,h4,h7,h5,h6⟩:=id h;exact rA (fm:=tx "aabbb") (us:=[.t a,.t b,.i c,.i d,.i x]) h rfl h5 h6 acb acd (show memT (tx "wergild") _=true by decide) (by simp[pU,wU,strW,sgn]) (by rw[abw];rfl) (by rw[abw];simp[qH,uW]) (by simp)
 | accuse k n d x o p =>
  obtain⟨h1,h2,h3,h4,h5,h6⟩:=id h;exact rA (fm:=tx "babb") (us:=[.i k,.t n,.i d,.i x]) h rfl h5 h6 ae1 ae2 (show memT (tx "accuse") _=true by decide) (by simp[pU,wU,strW,sgn]) (by rw[ae0];rfl) (by rw[ae0];simp[qH,uW]) (by simp)
theorem ae5 {us:List Un}(hl:us.length<=1000)(h:∀ u∈us,strU u=some (strW u)):(T.lcs us (λ(i3:Un)=>(((T.ofO (strU i3)).bind λ x5 =>
 .ok (some x5)):T Empty (Option Tx))):T Empty (List Tx))=.ok (us.map strW):=by
 rw[aef (g:=λ u=>some (strW u)) (by omega) λ u hu=>by rw[h u hu,aa],show(λ u=>some (strW u))=some∘strW from rfl,List.filterMap_eq_map]
theorem joined {w:Tx}{ws:List Tx}(h:(jc w ws).cs.length<=1000):joinT (tx " ") (w::ws)=some (jc w ws):=ahk (by omega)
theorem iw {e:Wd}(h:RdOk e)(hm:memT (w0 e) (Kt.mk ["claim","wergild","accuse"]).ts=false) (hw:wU (pU e) false=(pU e).map strW) (hl:∀ u∈pU e,u.isL=false) (hn:(pU e).length<=10):cW e.t=.ok (shw e):=by
 have hlen:=xG h
 unfold cW;rw[qZ,show atI (DeedT.mk (.t (w0 e)::pU e)).ps (0:Int)=some (.t (w0 e)) from at0 _ _,aa,show Un.toT (.t (w0 e))=some (w0 e) from rfl,aa,hm,if_pos (by rfl)]
 rw[ae5 (us:=.t (w0 e)::pU e) (by simp;omega) (λ u hu=>by
  rcases List.mem_cons.mp hu with rfl | hu
  ·rfl
  ·rcases (ahn h).1 u hu with q | q
   ·rw[hl u hu]at q;cases q
   ·exact q),T.ok_bind,List.map_cons,←hw,show strW (.t (w0 e))=w0 e from rfl,joined hlen]
 rfl
theorem rB {e:Wd}(h:RdOk e){us:List Un}{o p:List Tx}(he:pU e=us++[.l o,.l p])(hm:memT (w0 e) (Kt.mk ["claim","wergild","accuse"]).ts=true) (hw:wU (pU e) false=us.map strW++tx "+"::(o++tx "-"::p)) (hl:∀ u∈us,u.isL=false) (hn:us.length<=6) (hn2:o.length<=26/\p.length<=26)
  (hc:cutU (DeedT.mk (.t (w0 e)::pU e)) none (some (-2:Int))=some (DeedT.mk (.t (w0 e)::us))) (h1:atI (Un.t (w0 e)::pU e) (-2:Int)=some (.l o)) (h2:atI (Un.t (w0 e)::pU e) (-1:Int)=some (.l p)):cW e.t=.ok (shw e):=by
 have hlen:=xG h
 unfold cW;rw[qZ,show atI (DeedT.mk (.t (w0 e)::pU e)).ps (0:Int)=some (.t (w0 e)) from at0 _ _,aa,show Un.toT (.t (w0 e))=some (w0 e) from rfl,aa,hm,if_neg (by decide),hc,aa]
 rw[show(DeedT.mk (.t (w0 e)::us)).ps=.t (w0 e)::us from rfl,ae5 (us:=.t (w0 e)::us) (by simp;omega) (λ u hu=>by
  rcases List.mem_cons.mp hu with rfl | hu
  ·rfl
  ·rcases (ahn h).1 u (by rw[he];exact List.mem_append_left _ hu) with q | q
   ·rw[hl u hu]at q;cases q
   ·exact q),T.ok_bind,cR (by simp;omega),aa,show atI (DeedT.mk (.t (w0 e)::pU e)).ps (-2:Int)=some (.l o) from h1,aa,show Un.toL (.l o)=some o from rfl,aa,cR (by simp;omega),aa,cR (by simp;omega),aa,
  show atI (DeedT.mk (.t (w0 e)::pU e)).ps (-1:Int)=some (.l p) from h2,aa,show Un.toL (.l p)=some p from rfl,aa,cR (by simp;omega),aa]
 have hws:(((List.map strW (Un.t (w0 e)::us)++[tx "+"])++o)++[tx "-"])++p=w0 e::wU (pU e) false:=by
  rw[hw,List.map_cons]
  simp[strW]
 rw[hws,joined hlen]
 rfl
theorem ahy {e:Wd}(h:RdOk e):cW e.t=.ok (shw e):=by
 cases e with
 | claim a t d x o p =>
  obtain⟨h1,h2,h3,h4,h5,h6⟩:=id h;exact rB (us:=[.t a,.i t,.i d,.i x]) h rfl (show memT (tx "claim") _=true by decide) (by simp[pU,wU,strW,sgn]) (by simp[Un.isL]) (by simp) ⟨h5.1,h6.1⟩ rfl rfl rfl
 | wergild a b c d x o p =>
  obtain⟨h1,h2,h3,h4,h7,h5,h6⟩:=id h;exact rB (us:=[.t a,.t b,.i c,.i d,.i x]) h rfl (show memT (tx "wergild") _=true by decide) (by simp[pU,wU,strW,sgn]) (by simp[Un.isL]) (by simp) ⟨h5.1,h6.1⟩ rfl rfl rfl
 | accuse k n d x o p =>
  obtain⟨h1,h2,h3,h4,h5,h6⟩:=id h;exact rB (us:=[.i k,.t n,.i d,.i x]) h rfl (show memT (tx "accuse") _=true by decide) (by simp[pU,wU,strW,sgn]) (by simp[Un.isL]) (by simp) ⟨h5.1,h6.1⟩ rfl rfl rfl
 | come n d w=>exact iw h (show memT (tx "come") _=false by decide) rfl (by simp[pU,Un.isL]) (by simp[pU])
 | rise n d w=>exact iw h (show memT (tx "rise") _=false by decide) rfl (by simp[pU,Un.isL]) (by simp[pU])
 | die n d w=>exact iw h (show memT (tx "die") _=false by decide) rfl (by simp[pU,Un.isL]) (by simp[pU])
 | penance n=>exact iw h (show memT (tx "penance") _=false by decide) rfl (by simp[pU,Un.isL]) (by simp[pU])
 | bring n d=>exact iw h (show memT (tx "bring") _=false by decide) rfl (by simp[pU,Un.isL]) (by simp[pU])
 | give t a b d=>exact iw h (show memT (tx "give") _=false by decide) rfl (by simp[pU,Un.isL]) (by simp[pU])
 | pay a b c d=>exact iw h (show memT (tx "pay") _=false by decide) rfl (by simp[pU,Un.isL]) (by simp[pU])
theorem am6 (s:SrcT){ns:List Tx}(h0:0 < ns.length)(h1:ns.length<=500)(hg:∀ n∈ns,GoodT n):(jx s ns).Post λ p=>sideOk p.1:=by
 unfold jx;obtain⟨r1,s2,e1,a0,a1⟩:=gK s (n:=4) (by omega);rw[e1,T.ok_bind]
 dsimp only
 refine j7 (rG (xs:=([(3:Int),(3:Int),(3:Int),(16:Int)]:List Int)) a0 (by simpa using a1)) ?_
 have:∀ x∈([(3:Int),(3:Int),(3:Int),(16:Int)]:List Int),0 < x/\x<=16:=by decide
 have hx:=this _ (List.getElem_mem (l:=([(3:Int),(3:Int),(3:Int),(16:Int)]:List Int)) (n:=r1.toNat) (by simp;omega))
 generalize ([(3:Int),(3:Int),(3:Int),(16:Int)]:List Int)[r1.toNat]'(by simp;omega)=x3 at hx
 obtain⟨r4,s5,e4,b0,b1⟩:=gK s2 (n:=x3) (by omega);rw[e4,T.ok_bind]
 dsimp only
 refine qP (ajX b0 (by omega)) (jP (aj4 (P:=λ x:Tx=>GoodT x) (by rw[vH];omega) λ i hi v=>?_) ?_)
 ·obtain⟨r9,s10,e9,c0,c1⟩:=gK v (n:=(ns.length:Int)) (by omega);rw[e9,T.ok_bind]
  dsimp only
  refine j7 (rG c0 c1) (bD ?_);intro y hy
  injection hy with hy
  subst hy
  exact hg _ (List.getElem_mem _)
 ·rintro⟨l,s7⟩ ⟨q1,q2⟩;rw[vH]at q1;exact bD ⟨by show l.length<=26;dsimp only at q1;omega,q2⟩
section
variable {ns:List Tx}{s:SrcT}{parts:List Un}{β:Type}{k:SrcT×List Un->T Empty β}{Q:β->Prop}
noncomputable abbrev anyB (names:List Tx):Tx->SrcT×List Un->T Empty (SrcT×List Un):=(λ(i6:Tx) (src9,parts10)=>((if(decide (i6=(tx "a")))=true then((jO src9 (((List.length names:Nat):Int):Int)).bind λ(r11,src12) =>
 (T.ofO (atI names r11)).bind λ x13 =>
 T.gd (parts10.length < sizeLine) <|
 .ok (src12,(parts10++[(Un.t x13)]))) else(if(decide (i6=(tx "b")))=true then((dU src9).bind λ(r14,src15) =>
 T.gd (parts10.length < sizeLine) <|
 .ok (src15,(parts10++[(Un.i r14)]))) else((jx src9 names).bind λ(r16,src17) =>
 (jx src17 names).bind λ(r18,src19) =>
 (T.ofO (catT parts10 (List.map Un.l (([r16,r18]:List (List Tx)):(List (List Tx)))))).bind λ x20 =>
 .ok (src19,x20)))):T Empty (SrcT×(List Un))))
theorem xH {ns:List Tx}{s:SrcT}{parts:List Un}{x:Tx}{xs:List Tx}{k:SrcT×List Un->T Empty β}:(T.forM (x::xs) (s,parts) (anyB ns)).bind k=(anyB ns x (s,parts)).bind λ v=>(T.forM xs v (anyB ns)).bind k:=by
 rw[jt]
 cases anyB ns x (s,parts)<;>rfl
theorem stA {xs:List Tx}(h0:0 < ns.length)(h1:ns.length<=500)(hg:∀ n∈ns,GoodT n)(hl:parts.length<=20)(h:∀ n s,GoodT n->((T.forM xs (s,parts++[.t n]) (anyB ns)).bind k).Post Q):((T.forM (tx "a"::xs) (s,parts) (anyB ns)).bind k).Post Q:=by
 rw[xH];unfold anyB
 dsimp only
 obtain⟨r11,s12,e11,b0,b1⟩:=gK s (n:=(ns.length:Int)) (by omega);rw[if_pos (by rfl),e11,T.ok_bind]
 dsimp only
 rw[rG b0 b1,aa,T.gd_of (szl _ (by omega)),T.ok_bind];exact h _ _ (hg _ (List.getElem_mem _))
theorem stB {xs:List Tx}(hl:parts.length<=20)(h:∀ n s,numOk n->((T.forM xs (s,parts++[.i n]) (anyB ns)).bind k).Post Q):((T.forM (tx "b"::xs) (s,parts) (anyB ns)).bind k).Post Q:=by
 rw[xH];unfold anyB
 dsimp only
 obtain⟨⟨r14,s15⟩,e14,hr⟩:=aho s;rw[if_neg (by decide),if_pos (by rfl),e14,T.ok_bind]
 dsimp only at hr ⊢
 rw[T.gd_of (szl _ (by omega)),T.ok_bind];exact h _ _ hr
theorem stC {xs:List Tx}(h0:0 < ns.length)(h1:ns.length<=500)(hg:∀ n∈ns,GoodT n)(hl:parts.length<=20)(h:∀ o p s,sideOk o->sideOk p->((T.forM xs (s,parts++[.l o,.l p]) (anyB ns)).bind k).Post Q):((T.forM (tx "+"::xs) (s,parts) (anyB ns)).bind k).Post Q:=by
 rw[xH];unfold anyB
 dsimp only
 obtain⟨⟨r16,s17⟩,e16,hr⟩:=am6 s h0 h1 hg;rw[if_neg (by decide),if_neg (by decide),e16,T.ok_bind]
 dsimp only at hr ⊢
 obtain⟨⟨r18,s19⟩,e18,hr2⟩:=am6 s17 h0 h1 hg;rw[e18,T.ok_bind]
 dsimp only at hr2 ⊢
 rw[cR (by simp only[List.length_cons,List.length_map,List.length_nil];omega),aa,T.ok_bind];exact h _ _ _ hr hr2
end
theorem aoV (s:SrcT){ns:List Tx}(h0:0 < ns.length)(h1:ns.length<=500)(hg:∀ n∈ns,GoodT n):(gW s ns).Post λ p=>∃ e:Wd,p.1=e.t/\RdOk e:=by
 unfold gW;obtain⟨r1,s2,e1,a0,a1⟩:=gK s (n:=10) (by omega);rw[e1,T.ok_bind]
 dsimp only
 obtain⟨k,rfl⟩:=Int.eq_ofNat_of_zero_le a0
 have hk:k < 10:=by omega
 rw[jY]
 clear a0 a1 e1
 match k,hk with
 | 0,_ =>
  rw[show([(tx "come"),(tx "rise"),(tx "die"),(tx "penance"),(tx "bring"),(tx "give"),(tx "pay"),(tx "claim"),(tx "wergild"),(tx "accuse")]:List Tx)[0]?=some (tx "come") from rfl,aa,show cI (tx "come")=.ok (some (tx "abb")) from congrArg T.ok (by decide),T.ok_bind,aa,show signsT (tx "abb")=[tx "a",tx "b",tx "b"] by decide];refine stA h0 h1 hg (by simp) λ n s hn=>?_;refine stB (by simp) λ d s hd=>?_;refine stB (by simp) λ w s hw=>?_;exact bD ⟨.come n d w,rfl,⟨hn,hd,hw⟩⟩
 | 1,_ =>
  rw[show([(tx "come"),(tx "rise"),(tx "die"),(tx "penance"),(tx "bring"),(tx "give"),(tx "pay"),(tx "claim"),(tx "wergild"),(tx "accuse")]:List Tx)[1]?=some (tx "rise") from rfl,aa,show cI (tx "rise")=.ok (some (tx "abb")) from congrArg T.ok (by decide),T.ok_bind,aa,show signsT (tx "abb")=[tx "a",tx "b",tx "b"] by decide];refine stA h0 h1 hg (by simp) λ n s hn=>?_;refine stB (by simp) λ d s hd=>?_;refine stB (by simp) λ w s hw=>?_;exact bD ⟨.rise n d w,rfl,⟨hn,hd,hw⟩⟩
 | 2,_ =>
  rw[show([(tx "come"),(tx "rise"),(tx "die"),(tx "penance"),(tx "bring"),(tx "give"),(tx "pay"),(tx "claim"),(tx "wergild"),(tx "accuse")]:List Tx)[2]?=some (tx "die") from rfl,aa,show cI (tx "die")=.ok (some (tx "aba")) from congrArg T.ok (by decide),T.ok_bind,aa,show signsT (tx "aba")=[tx "a",tx "b",tx "a"] by decide];refine stA h0 h1 hg (by simp) λ n s hn=>?_;refine stB (by simp) λ d s hd=>?_;refine stA h0 h1 hg (by simp) λ h s hh=>?_;exact bD ⟨.die n d h,rfl,⟨hn,hd,hh⟩⟩
 | 3,_ =>
  rw[show([(tx "come"),(tx "rise"),(tx "die"),(tx "penance"),(tx "bring"),(tx "give"),(tx "pay"),(tx "claim"),(tx "wergild"),(tx "accuse")]:List Tx)[3]?=some (tx "penance") from rfl,aa,show cI (tx "penance")=.ok (some (tx "a")) from congrArg T.ok (by decide),T.ok_bind,aa,show signsT (tx "a")=[tx "a"] by decide];refine stA h0 h1 hg (by simp) λ n s hn=>?_;exact bD ⟨.penance n,rfl,hn⟩
 | 4,_ =>
  rw[show([(tx "come"),(tx "rise"),(tx "die"),(tx "penance"),(tx "bring"),(tx "give"),(tx "pay"),(tx "claim"),(tx "wergild"),(tx "accuse")]:List Tx)[4]?=some (tx "bring") from rfl,aa,show cI (tx "bring")=.ok (some (tx "ab")) from congrArg T.ok (by decide),T.ok_bind,aa,show signsT (tx "ab")=[tx "a",tx "b"] by decide];refine stA h0 h1 hg (by simp) λ n s hn=>?_;refine stB (by simp) λ d s hd=>?_;exact bD ⟨.bring n d,rfl,⟨hn,hd⟩⟩
 | 5,_ =>
  rw[show([(tx "come"),(tx "rise"),(tx "die"),(tx "penance"),(tx "bring"),(tx "give"),(tx "pay"),(tx "claim"),(tx "wergild"),(tx "accuse")]:List Tx)[5]?=some (tx "give") from rfl,aa,show cI (tx "give")=.ok (some (tx "baab")) from congrArg T.ok (by decide),T.ok_bind,aa,show signsT (tx "baab")=[tx "b",tx "a",tx "a",tx "b"] by decide];refine stB (by simp) λ t s ht=>?_;refine stA h0 h1 hg (by simp) λ a s ha=>?_;refine stA h0 h1 hg (by simp) λ b s hb=>?_;refine stB (by simp) λ d s hd=>?_;exact bD ⟨.give t a b d,rfl,⟨ht,ha,hb,hd⟩⟩
 | 6,_ =>
  rw[show([(tx "come"),(tx "rise"),(tx "die"),(tx "penance"),(tx "bring"),(tx "give"),(tx "pay"),(tx "claim"),(tx "wergild"),(tx "accuse")]:List Tx)[6]?=some (tx "pay") from rfl,aa,show cI (tx "pay")=.ok (some (tx "aabb")) from congrArg T.ok (by decide),T.ok_bind,aa,show signsT (tx "aabb")=[tx "a",tx "a",tx "b",tx "b"] by decide];refine stA h0 h1 hg (by simp) λ a s ha=>?_;refine stA h0 h1 hg (by simp) λ b s hb=>?_;refine stB (by simp) λ c s hc=>?_;refine stB (by simp) λ d s hd=>?_;exact bD ⟨.pay a b c d,rfl,⟨ha,hb,hc,hd⟩⟩
 | 7,_ =>
  rw[show([(tx "come"),(tx "rise"),(tx "die"),(tx "penance"),(tx "bring"),(tx "give"),(tx "pay"),(tx "claim"),(tx "wergild"),(tx "accuse")]:List Tx)[7]?=some (tx "claim") from rfl,aa,show cI (tx "claim")=.ok (some (tx "abbb+")) from congrArg T.ok (by decide),T.ok_bind,aa,show signsT (tx "abbb+")=[tx "a",tx "b",tx "b",tx "b",tx "+"] by decide];refine stA h0 h1 hg (by simp) λ a s ha=>?_;refine stB (by simp) λ t s ht=>?_;refine stB (by simp) λ d s hd=>?_;refine stB (by simp) λ x s hx=>?_;refine stC h0 h1 hg (by simp) λ o p s ho hp=>?_;exact bD ⟨.claim a t d x o p,rfl,⟨ha,ht,hd,hx,ho,hp⟩⟩
 | 8,_ =>
  rw[show([(tx "come"),(tx "rise"),(tx "die"),(tx "penance"),(tx "bring"),(tx "give"),(tx "pay"),(tx "claim"),(tx "wergild"),(tx "accuse")]:List Tx)[8]?=some (tx "wergild") from rfl,aa,show cI (tx "wergild")=.ok (some (tx "aabbb+")) from congrArg T.ok (by decide),T.ok_bind,aa,show signsT (tx "aabbb+")=[tx "a",tx "a",tx "b",tx "b",tx "b",tx "+"] by decide];refine stA h0 h1 hg (by simp) λ a s ha=>?_;refine stA h0 h1 hg (by simp) λ b s hb=>?_;refine stB (by simp) λ c s hc=>?_;refine stB (by simp) λ d s hd=>?_;refine stB (by simp) λ x s hx=>?_;refine stC h0 h1 hg (by simp) λ o p s ho hp=>?_;exact bD ⟨.wergild a b c d x o p,rfl,⟨ha,hb,hc,hd,hx,ho,hp⟩⟩
 | 9,_ =>
  rw[show([(tx "come"),(tx "rise"),(tx "die"),(tx "penance"),(tx "bring"),(tx "give"),(tx "pay"),(tx "claim"),(tx "wergild"),(tx "accuse")]:List Tx)[9]?=some (tx "accuse") from rfl,aa,show cI (tx "accuse")=.ok (some (tx "babb+")) from congrArg T.ok (by decide),T.ok_bind,aa,show signsT (tx "babb+")=[tx "b",tx "a",tx "b",tx "b",tx "+"] by decide];refine stB (by simp) λ k s hk=>?_;refine stA h0 h1 hg (by simp) λ n s hn=>?_;refine stB (by simp) λ d s hd=>?_;refine stB (by simp) λ x s hx=>?_;refine stC h0 h1 hg (by simp) λ o p s ho hp=>?_;exact bD ⟨.accuse k n d x o p,rfl,⟨hk,hn,hd,hx,ho,hp⟩⟩
 | k+10,h=>omega
theorem am7 {e:Wd}(h:RdOk e){u:Un}(hu:u∈pU e):lenU u<=26:=by
 cases e with
 | claim a t d x o p =>
  simp only[pU,List.mem_cons,List.not_mem_nil,or_false]at hu
  rcases hu with rfl | rfl | rfl | rfl | rfl | rfl<;>first | exact Nat.zero_le _ | exact h.2.2.2.2.1.1 | exact h.2.2.2.2.2.1
 | wergild a b c d x o p =>
  simp only[pU,List.mem_cons,List.not_mem_nil,or_false]at hu
  rcases hu with rfl | rfl | rfl | rfl | rfl | rfl | rfl<;>first | exact Nat.zero_le _ | exact h.2.2.2.2.2.1.1 | exact h.2.2.2.2.2.2.1
 | accuse k n d x o p =>
  simp only[pU,List.mem_cons,List.not_mem_nil,or_false]at hu
  rcases hu with rfl | rfl | rfl | rfl | rfl | rfl<;>first | exact Nat.zero_le _ | exact h.2.2.2.2.1.1 | exact h.2.2.2.2.2.1
 | _ =>
  simp only[pU,List.mem_cons,List.not_mem_nil,or_false]at hu
  first
   | (rcases hu with rfl | rfl | rfl | rfl<;>exact Nat.zero_le _)
   | (rcases hu with rfl | rfl | rfl<;>exact Nat.zero_le _)
   | (rcases hu with rfl | rfl<;>exact Nat.zero_le _)
   | (subst hu;exact Nat.zero_le _)
theorem aoW {e:Wd}(h:RdOk e):grwOk e.t=true:=by
 have hp:=sS e
 unfold grwOk;rw[Bool.and_eq_true,decide_eq_true_eq];refine⟨Nat.le_of_lt (szl _ (by omega)),List.all_eq_true.mpr λ u hu=>decide_eq_true ?_⟩
 have hl:lenU u<=26:=by
  have hu:u∈Un.t (w0 e)::pU e:=by rw[qZ]at hu;exact hu
  rcases List.mem_cons.mp hu with rfl | hu
  ·exact Nat.zero_le _
  ·exact am7 h hu
 exact szl _ (by omega)
theorem ae6 {e:Wd}:jR (Enc.enc e.t:D) (Enc.enc e.t:D)=.ok true:=by
 have hp:Lw.Pl 12 (Enc.enc e.t:D):=by
  intro d hd;obtain⟨u,_,rfl⟩:=List.mem_map.mp hd
  cases u with
  | i n=>trivial
  | t y=>trivial
  | o=>trivial
  | l xs =>
   intro f hf;obtain⟨y,_,rfl⟩:=List.mem_map.mp hf
   trivial
 unfold jR;rw[if_pos ⟨hp,hp⟩,Lw.oh]
theorem ahz (ns:List Int)(hn:ns.length<=63):lM ns=.ok true:=by
 suffices h:(lM ns).Post λ b=>b=true by
  obtain⟨b,e,rfl⟩:=h;exact e
 unfold lM;obtain⟨s0,e0⟩:=agV hn;rw[e0,T.ok_bind];obtain⟨r2,s3,e2,a0,a1⟩:=gK s0 (n:=6) (by omega);rw[e2,T.ok_bind]
 dsimp only
 obtain⟨nms,s5,e4,l4,d4,g4⟩:=abX s3 (m:=1+r2) (by omega);rw[e4,T.ok_bind]
 dsimp only
 refine qP (ajX (by omega) (by omega)) (abY (P:=λ _:SrcT=>True) (qu (aeg (λ _ (_:SrcT)=>True) trivial ?_) λ z hz=>?_) ?_)
 ·rintro pre x post s8 hx _;obtain⟨⟨d,s10⟩,e9,e,hd,hr⟩:=aoV s8 (ns:=nms) (by omega) (by omega) g4
  dsimp only at hd
  subst hd
  have hp:=sS e
  rw[e9,T.ok_bind]
  dsimp only
  rw[T.gd_of (Nat.le_of_lt (szl _ (by omega))),yX hr,T.ok_bind,ahy hr,T.ok_bind,vI (shw e),T.ok_bind,if_neg (by decide),ae6,T.ok_bind,if_neg (by decide),ahx hr,T.ok_bind,ae6,T.ok_bind,T.nv_ok,T.ok_bind,if_neg (by decide),T.gd_of (aoW hr),T.ok_bind,ae6,T.ok_bind,if_neg (by decide),T.ok_bind,vI (shw e),T.ok_bind,if_neg (by decide)];exact bD ⟨_,rfl,trivial⟩
 ·obtain⟨v',rfl,_⟩:=hz;exact⟨v',rfl,trivial⟩
 ·intro s8 _;exact bD rfl
end Ty
namespace Lw
open PySem VS L2
theorem ahA (ns:List Int)(hn:ns.length<=63):∃ L,jd [some (.scr ns)]=.ok (.d (.bool true)) L:=ajU (Ty.ace ns) rfl (Ty.ahz ns hn)
end Lw
namespace Tx
open PySem PySem.Spec PyProof.Rows L2 VS
abbrev zj:List Str:=["text","sign"]
theorem acf:FnScope zj ["text"] (defScope gj):=⟨rfl,rfl,rfl,by decide +kernel,rfl,by decide +kernel,by decide +kernel⟩
abbrev j9:List Str:=["deed","part"]
theorem xJ:FnScope j9 ["deed"] (defScope bj):=⟨rfl,rfl,rfl,by decide +kernel,rfl,by decide +kernel,by decide +kernel⟩
abbrev qI:List Str:=["word","sign"]
theorem uX:FnScope qI ["word"] (defScope bG):=⟨rfl,rfl,rfl,by decide +kernel,rfl,by decide +kernel,by decide +kernel⟩
abbrev uI:List Str:=["word"]
theorem zm:FnScope uI ["word"] (defScope cX):=⟨rfl,rfl,rfl,by decide +kernel,rfl,by decide +kernel,by decide +kernel⟩
abbrev rN:List Str:=["words","form","parts","word","sign"]
theorem xK:FnScope rN ["words","form"] (defScope bZ):=⟨rfl,rfl,rfl,by decide +kernel,rfl,by decide +kernel,by decide +kernel⟩
abbrev kh:List Str:=["words","cut","ones","others","word"]
theorem xN:FnScope kh ["words"] (defScope bu):=⟨rfl,rfl,rfl,by decide +kernel,rfl,by decide +kernel,by decide +kernel⟩
abbrev uJ:List Str:=["text","words","form","cut"]
theorem zp:FnScope uJ ["text"] (defScope cY):=⟨rfl,rfl,rfl,by decide +kernel,rfl,by decide +kernel,by decide +kernel⟩
abbrev zq:List Str:=["_law_script"]
theorem acg:FnScope zq ["_law_script"] (defScope gq):=⟨rfl,rfl,rfl,by decide +kernel,rfl,by decide +kernel,by decide +kernel⟩
abbrev vX:List Str:=["_law_src_here","_law_base","_law_cell","_law_digit"]
theorem aaF:FnScope vX Q2 (defScope eZ):=⟨rfl,rfl,rfl,by decide +kernel,rfl,by decide +kernel,by decide +kernel⟩
abbrev uK:List Str:=["_law_found"]
theorem zr:FnScope uK ["_law_found"] (defScope cZ):=⟨rfl,rfl,rfl,by decide +kernel,rfl,by decide +kernel,by decide +kernel⟩
abbrev vY:List Str:=["_law_found","_law_due","_law_one","_law_other"]
theorem aaG:FnScope vY ["_law_found","_law_due"] (defScope fj):=⟨rfl,rfl,rfl,by decide +kernel,rfl,by decide +kernel,by decide +kernel⟩
abbrev rO:List Str:=["_law_names_here","_law_name","_law_letters","_law_stem","_law_tries"]
theorem xO:FnScope rO ["_law_names_here","_law_name"] (defScope cA):=⟨rfl,rfl,rfl,by decide +kernel,rfl,by decide +kernel,by decide +kernel⟩
abbrev rC:List Str:=["_law_src_here","_law_many","_law_letters","_law_k"]
theorem aaH:FnScope rC Q4 (defScope dI):=⟨rfl,rfl,rfl,by decide +kernel,rfl,by decide +kernel,by decide +kernel⟩
abbrev uL:List Str:=["_law_src_here","_law_many","_law_style","_law_stem","_law_at","_law_names_here","_law_k","_law_name"]
theorem zu:FnScope uL Q4 (defScope dh):=⟨rfl,rfl,rfl,by decide +kernel,rfl,by decide +kernel,by decide +kernel⟩
abbrev rP:List Str:=["_law_src_here","_law_kind"]
theorem xP:FnScope rP ["_law_src_here"] (defScope cC):=⟨rfl,rfl,rfl,by decide +kernel,rfl,by decide +kernel,by decide +kernel⟩
abbrev uM:List Str:=["_law_src_here","_law_names_here","_law_k"]
theorem ach:FnScope uM Q3 (defScope fJ):=⟨rfl,rfl,rfl,by decide +kernel,rfl,by decide +kernel,by decide +kernel⟩
abbrev vZ:List Str:=["_law_word_here","_law_forms","_law_more"]
theorem aaI:FnScope vZ ["_law_word_here"] (defScope fu):=⟨rfl,rfl,rfl,by decide +kernel,rfl,by decide +kernel,by decide +kernel⟩
abbrev oX:List Str:=["_law_src_here","_law_names_here","_law_words","_law_word_here","_law_parts","_law_sign"]
theorem uN:FnScope oX Q3 (defScope bf):=⟨rfl,rfl,rfl,by decide +kernel,rfl,by decide +kernel,by decide +kernel⟩
abbrev uO:List Str:=["_law_deed","_law_text","_law_sign","_law_part","_law_name"]
theorem zA:FnScope uO ["_law_deed"] (defScope du):=⟨rfl,rfl,rfl,by decide +kernel,rfl,by decide +kernel,by decide +kernel⟩
abbrev akO:List Str:=["_law_script","_law_src_here","_law_names_here","_law_k","_law_deed","_law_handed","_law_text","_law_found","_law_part"]
theorem am8:FnScope akO ["_law_script"] (defScope pF):=⟨rfl,rfl,rfl,by decide +kernel,rfl,by decide +kernel,by decide +kernel⟩
section
variable {P:Program}{w:World}{K:W.Frag}{mg:Str->Option Value}{base:Heap}{ca:Nat->Addr}
theorem aci {f:Addr}{fd:FuncData}(F:Fun K "is_name" "is_name" gj f fd) (z_len:mg "len"=none) (z_LETTERS:∃ t,mg "LETTERS"=some (.str "abcdefghijklmnopqrstuvwxyz" t)):FnOk P w K mg base (L2.CX P w) 1 f fd ["text"] (VSp K ca [false] Lw.lu):=by
 refine iT (md:=[false]) ?_ rfl;refine lW (obs:=[]) (md:=[false]) (k:=0) F acf (by decide) (by decide) (iQ (by decide +kernel)) λ cdv A outer s H E ws hr B hwl hob=>?_
 have tk:Takes (ctOf P w K mg base ca zj "is_name" (defScope gj) f cdv A outer s H E [false] ws B).X _:=takes_of rfl rfl rfl rfl
 have hv:=lX hwl
 exact(aq (fX (aih (xX (bB afw (jy (jm (by rfl) z_len (az 0 (pv 0)))) (jy ak) (nomark _)) (vg (bB afx (jy (jm (by rfl) z_len (az 0 (pv 0)))) (jy ak) (nomark _))))) (aA (bx (lN sV))) cV)
  (aq (oH PassesOwn.leaving rfl (pQ (aN 0 (pv 0))) (fD 1 (by intro h;cases h) (pg_name (i:=1) acf.nd rfl (by first | exact Or.inl rfl | exact Or.inr rfl))) (aA (fX (bB (v9 hr) (az 1 (pv 1)) (jy (ald (by rfl) z_LETTERS)) rfl) (aA (bx (lN sV))) cV)))
  (aA (bx (lN sV)))))
theorem xQ {f:Addr}{fd:FuncData}(F:Fun K "shown_deed" "shown_deed" bj f fd) (z_str:mg "str"=none) (z_CASES:∃ t,mg "CASES"=some (.ref t)/\KTx K t ["claim","wergild","accuse"]):FnOk P w K mg base (L2.CX P w) 1 f fd ["deed"] (VSp K ca [false] Lw.iz):=by
 refine iT (md:=[false]) ?_ rfl;refine lW (obs:=[]) (md:=[false]) (k:=0) F xJ (by decide) (by decide) (iQ (by decide +kernel)) λ cdv A outer s H E ws hr B hwl hob=>?_
 have tk:Takes (ctOf P w K mg base ca j9 "shown_deed" (defScope bj) f cdv A outer s H E [false] ws B).X _:=takes_of rfl rfl rfl rfl
 have hv:=lX hwl
 exact(aq (fX (yh (zs:=["claim","wergild","accuse"]) (by rfl) z_CASES (jy (cP 0 (pv 0) ak))) (aA (bx (lN (zJ aU (jy (aR (afq (own:=[("part",1)]) rfl xJ.nd (pQ (aN 0 (pv 0))) (blkOk_by (own:=[("part",1)]) (N:=j9) (sc:=defScope bj) (by decide +kernel)) (λ _=>(fD 1 (by intro h;cases h) (pg_name (i:=1) xJ.nd rfl (by first | exact Or.inl rfl | exact Or.inr rfl)))) (by decide) (by intro k hk;simp only[List.map_cons,List.map_nil,List.mem_cons,List.not_mem_nil,or_false]at hk;rcases hk with rfl<;>(intro h;cases h)) (λ _=>qJ) (λ _=>(z7 (by rfl) z_str (az 1 (pv 1))))))))))) cV)
  (aA (bx (lN (zJ aU (jy (aR (dD (aR (dD (aR (dD (aR (dD (aR (afq (own:=[("part",1)]) rfl xJ.nd (pQ (aR (mZ (az 0 (pv 0)) uR (pH (acC ak))))) (blkOk_by (own:=[("part",1)]) (N:=j9) (sc:=defScope bj) (by decide +kernel)) (λ _=>(fD 1 (by intro h;cases h) (pg_name (i:=1) xJ.nd rfl (by first | exact Or.inl rfl | exact Or.inr rfl)))) (by decide) (by intro k hk;simp only[List.map_cons,List.map_nil,List.mem_cons,List.not_mem_nil,or_false]at hk;rcases hk with rfl<;>(intro h;cases h)) (λ _=>qJ) (λ _=>(z7 (by rfl) z_str (az 1 (pv 1)))))) (aR (mV (aP aU iI))))) (cP 0 (pv 0) (acC ak)))) (aR (mV (aP aU iI))))) (cP 0 (pv 0) (acC ak))))))))))
theorem uY {f:Addr}{fd:FuncData}(F:Fun K "read_number" "read_number" bG f fd) (z_len:mg "len"=none) (z_int:mg "int"=none) (z_FIGURES:∃ t,mg "FIGURES"=some (.str "0123456789" t)):FnOk P w K mg base (L2.CX P w) 1 f fd ["word"] (VSp K ca [false] Lw.eX):=by
 refine iT (md:=[false]) ?_ rfl;refine lW (obs:=[]) (md:=[false]) (k:=0) F uX (by decide) (by decide) (iQ (by decide +kernel)) λ cdv A outer s H E ws hr B hwl hob=>?_
 have tk:Takes (ctOf P w K mg base ca qI "read_number" (defScope bG) f cdv A outer s H E [false] ws B).X _:=takes_of rfl rfl rfl rfl
 have hv:=lX hwl
 exact(aq (fX (aih (xX (bB afw (jy (jm (by rfl) z_len (az 0 (pv 0)))) (jy ak) (nomark _)) (xX (bB afx (jy (jm (by rfl) z_len (az 0 (pv 0)))) (jy ak) (nomark _)) (vg (aih (ak5 (bB (tK hr) (jy (cP 0 (pv 0) ak)) (jy aU) (nomark _)) (aig (bB afx (jy (jm (by rfl) z_len (az 0 (pv 0)))) (jy ak) (nomark _))))))))) (aA lg) cV)
  (aq (oH PassesOwn.leaving rfl (pQ (aN 0 (pv 0))) (fD 1 (by intro h;cases h) (pg_name (i:=1) uX.nd rfl (by first | exact Or.inl rfl | exact Or.inr rfl))) (aA (fX (bB (v9 hr) (az 1 (pv 1)) (jy (ald (by rfl) z_FIGURES)) rfl) (aA lg) cV)))
  (aA (bx (lN (ajy (by rfl) z_int (az 0 (pv 0))))))))
theorem zB {f:Addr}{fd:FuncData}(F:Fun K "read_name" "read_name" cX f fd) (D_is_name:Dx P w K mg base ca "is_name" 1 ["text"] [false] Lw.lu):FnOk P w K mg base (L2.CX P w) 2 f fd ["word"] (VSp K ca [false] Lw.cD):=by
 refine iT (md:=[false]) ?_ rfl;refine lW (obs:=[]) (md:=[false]) (k:=1) F zm (by decide) (by decide) (iQ (by decide +kernel)) λ cdv A outer s H E ws hr B hwl hob=>?_
 have tk:Takes (ctOf P w K mg base ca uI "read_name" (defScope cX) f cdv A outer s H E [false] ws B).X _:=takes_of rfl rfl rfl rfl
 have hv:=lX hwl
 exact(aq (fX (tD (kZ (aR (cJ D_is_name hr (by decide) tk (by rfl) (bV (aN 0 (pv 0)) aF))))) (aA lg) cV)
  (aA (bx (lO 0 (pv 0)))))
theorem xR {f:Addr}{fd:FuncData}(F:Fun K "read_words" "read_words" bZ f fd) (D_read_name:Dx P w K mg base ca "read_name" 2 ["word"] [false] Lw.cD) (D_read_number:Dx P w K mg base ca "read_number" 1 ["word"] [false] Lw.eX) (z_len:mg "len"=none) (z_zip:mg "zip"=none):FnOk P w K mg base (L2.CX P w) 3 f fd ["words","form"] (VSp K ca Q1 Lw.dN):=by
 refine iT (md:=[false,false]) ?_ rfl;refine lW (obs:=[]) (md:=[false,false]) (k:=2) F xK (by decide) (by decide) (iQ (by decide +kernel)) λ cdv A outer s H E ws hr B hwl hob=>?_
 have tk:Takes (ctOf P w K mg base ca rN "read_words" (defScope bZ) f cdv A outer s H E Q1 ws B).X _:=takes_of rfl rfl rfl rfl
 have hv:=lX hwl
 exact(aq (fX (bB (abD hr) (jy (jm (by rfl) z_len (az 0 (pv 0)))) (jy (jm (by rfl) z_len (az 1 (pv 1)))) (nomark _)) (aA lg) cV)
  (aq (bz 2 xK.nd rfl (by first | exact Or.inl rfl | exact Or.inr rfl) (by intro h;cases h) (mV iI))
  (aq (oH PassesOwn.leaving rfl (ajB (by rfl) z_zip (aP (aN 0 (pv 0)) (aP (aN 1 (pv 1)) iI))) (ahF rfl (rW (fD 3 (by intro h;cases h) (pg_name (i:=3) xK.nd rfl (by first | exact Or.inl rfl | exact Or.inr rfl))) (rW (fD 4 (by intro h;cases h) (pg_name (i:=4) xK.nd rfl (by first | exact Or.inl rfl | exact Or.inr rfl))) acK))) (aA (fX (bB (tK hr) (az 4 (pv 4)) (jy aU) (nomark _)) (aA (tH (m7 2 (pv 2) (aR (cJ D_read_name hr (by decide) tk (by rfl) (bV (aN 3 (pv 3)) aF)))))) (aA (tH (m7 2 (pv 2) (aR (cJ D_read_number hr (by decide) tk (by rfl) (bV (aN 3 (pv 3)) aF)))))))))
  (aA (bx (lO 2 (pv 2)))))))
theorem xU {f:Addr}{fd:FuncData}(F:Fun K "read_sides" "read_sides" bu f fd) (D_read_name:Dx P w K mg base ca "read_name" 2 ["word"] [false] Lw.cD) (z_len:mg "len"=none):FnOk P w K mg base (L2.CX P w) 3 f fd ["words"] (VSp K ca [false] Lw.fM):=by
 refine iT (md:=[false]) ?_ rfl;refine lW (obs:=[]) (md:=[false]) (k:=2) F xN (by decide) (by decide) (iQ (by decide +kernel)) λ cdv A outer s H E ws hr B hwl hob=>?_
 have tk:Takes (ctOf P w K mg base ca kh "read_sides" (defScope bu) f cdv A outer s H E [false] ws B).X _:=takes_of rfl rfl rfl rfl
 have hv:=lX hwl
 exact(aq (fX (aih (xX (bB afw (jy (jm (by rfl) z_len (az 0 (pv 0)))) (jy ak) (nomark _)) (xX (bB (abD hr) (jy (cP 0 (pv 0) ak)) (jy aU) (nomark _)) (vg (bB (abD hr) (jy (adz (az 0 (pv 0)) aU)) (jy ak) (nomark _)))))) (aA lg) cV)
  (aq (bz 1 xN.nd rfl (by first | exact Or.inl rfl | exact Or.inr rfl) (by intro h;cases h) (lN (adI (az 0 (pv 0)) aU)))
  (aq (yu (own:=[("word",4)]) (i:=2) rfl rfl tk (λ _ _ _ _ _ h=>h) rfl xN.nd rfl rfl (by intro h;cases h) (sw_true rfl rfl rfl (by decide +kernel)) (pQ (aR (mZ (az 0 (pv 0)) (pH ak) (pH (aN 1 (pv 1)))))) (blkOk_by (own:=[("word",4)]) (N:=kh) (sc:=defScope bu) (by decide +kernel)) (λ _=>(fD 4 (by intro h;cases h) (pg_name (i:=4) xN.nd rfl (by first | exact Or.inl rfl | exact Or.inr rfl)))) (by decide) (by intro k hk;simp only[List.map_cons,List.map_nil,List.mem_cons,List.not_mem_nil,or_false]at hk;rcases hk with rfl<;>(intro h;cases h)) (λ _=>qJ) (λ _=>(aR (cJ D_read_name hr (by decide) yt (by rfl) (bV (aN 4 (pv 4)) aF)))))
  (aq (yu (own:=[("word",4)]) (i:=3) rfl rfl tk (λ _ _ _ _ _ h=>h) rfl xN.nd rfl rfl (by intro h;cases h) (sw_true rfl rfl rfl (by decide +kernel)) (pQ (aR (mZ (az 0 (pv 0)) (pH (aR (dD (aN 1 (pv 1)) ak))) uR))) (blkOk_by (own:=[("word",4)]) (N:=kh) (sc:=defScope bu) (by decide +kernel)) (λ _=>(fD 4 (by intro h;cases h) (pg_name (i:=4) xN.nd rfl (by first | exact Or.inl rfl | exact Or.inr rfl)))) (by decide) (by intro k hk;simp only[List.map_cons,List.map_nil,List.mem_cons,List.not_mem_nil,or_false]at hk;rcases hk with rfl<;>(intro h;cases h)) (λ _=>qJ) (λ _=>(aR (cJ D_read_name hr (by decide) yt (by rfl) (bV (aN 4 (pv 4)) aF)))))
  (aA (bx (amg (amc (lO 2 (pv 2)) (amc (lO 3 (pv 3)) ajp)))))))))
theorem zE {f:Addr}{fd:FuncData}(F:Fun K "read_deed" "read_deed" cY f fd) (D_read_words:Dx P w K mg base ca "read_words" 3 ["words","form"] Q1 Lw.dN) (D_read_sides:Dx P w K mg base ca "read_sides" 3 ["words"] [false] Lw.fM) (z_tuple:mg "tuple"=none) (z_len:mg "len"=none) (z_FORMS:∃ t,mg "FORMS"=some (.ref t)/\KTab K w t [("come","abb"),("rise","abb"),("die","aba"),("penance","a"),("bring","ab"),("give","baab"),("pay","aabb"),("claim","abbb"),("wergild","aabbb"),("accuse","babb")]) (z_CASES:∃ t,mg "CASES"=some (.ref t)/\KTx K t ["claim","wergild","accuse"]):FnOk P w K mg base (L2.CX P w) 4 f fd ["text"] (VSp K ca [false] Lw.fB):=by
 refine iT (md:=[false]) ?_ rfl;refine lW (obs:=[]) (md:=[false]) (k:=3) F zp (by decide) (by decide) (iQ (by decide +kernel)) λ cdv A outer s H E ws hr B hwl hob=>?_
 have tk:Takes (ctOf P w K mg base ca uJ "read_deed" (defScope cY) f cdv A outer s H E [false] ws B).X _:=takes_of rfl rfl rfl rfl
 have hv:=lX hwl
 exact(aq (bz 1 zp.nd rfl (by first | exact Or.inl rfl | exact Or.inr rfl) (by intro h;cases h) (agD (aN 0 (pv 0)) aU))
  (aq (fX (adH (by rfl) z_FORMS (cP 1 (pv 1) ak)) (aA lg) cV)
  (aq (bz 2 zp.nd rfl (by first | exact Or.inl rfl | exact Or.inr rfl) (by intro h;cases h) (lN (ami (by rfl) z_FORMS (cP 1 (pv 1) ak))))
  (aq (fX (yh (zs:=["claim","wergild","accuse"]) (by rfl) z_CASES (jy (cP 1 (pv 1) ak))) (aA (bx (aol (adB (by rfl) z_tuple (jy (aR (dD (aR (mV (aP (cP 1 (pv 1) ak) iI))) (aR (cJ D_read_words hr (by decide) tk (by rfl) (bV (aR (mZ (az 1 (pv 1)) (pH ak) uR)) (bV (aN 2 (pv 2)) aF))))))))))) cV)
  (aq (bz 3 zp.nd rfl (by first | exact Or.inl rfl | exact Or.inr rfl) (by intro h;cases h) (dD ak (jm (by rfl) z_len (az 2 (pv 2)))))
  (aA (bx (adD (by rfl) z_tuple (ajE (aR (dD (aR (mV (aP (cP 1 (pv 1) ak) iI))) (aR (cJ D_read_words hr (by decide) tk (by rfl) (bV (aR (mZ (az 1 (pv 1)) (pH ak) (pH (aN 3 (pv 3))))) (bV (aN 2 (pv 2)) aF)))))) (cJ D_read_sides hr (by decide) tk (by rfl) (bV (aR (mZ (az 1 (pv 1)) (pH (aN 3 (pv 3))) uR)) aF)))))))))))
theorem acj {f:Addr}{fd:FuncData}(F:Fun K "_law_src" "_law_src" gq f fd) (z_list:mg "list"=none):FnOk P w K mg base (L2.CX P w) 1 f fd ["_law_script"] (VSp K ca [true] Lw.lw):=by
 refine iT (md:=[true]) ?_ rfl;refine lW (obs:=[]) (md:=[true]) (k:=0) F acg (by decide) (by decide) (iQ (by decide +kernel)) λ cdv A outer s H E ws hr B hwl hob=>?_
 have tk:Takes (ctOf P w K mg base ca zq "_law_src" (defScope gq) f cdv A outer s H E [true] ws B).X _:=takes_of rfl rfl rfl rfl
 have hv:=lX hwl
 exact(aA (bx (mV (aP (aR (acJ (by rfl) z_list (jy (aR (mZ (az 0 (pv 0)) uR (pH ak)))))) (aP ak (aP ak (aP ak (aP ak iI))))))))
theorem aaJ {f:Addr}{fd:FuncData}(F:Fun K "_law_next" "_law_next" eZ f fd) (z_len:mg "len"=none):FnOk P w K mg base (L2.CX P w) 1 f fd Q2 (VSp K ca Q0 Lw.ao):=by
 refine iT (md:=[true,false]) ?_ rfl;refine lW (obs:=[]) (md:=[true,false]) (k:=0) F aaF (by decide) (by decide) (iQ (by decide +kernel)) λ cdv A outer s H E ws hr B hwl hob=>?_
 have tk:Takes (ctOf P w K mg base ca vX "_law_next" (defScope eZ) f cdv A outer s H E Q0 ws B).X _:=takes_of rfl rfl rfl rfl
 have hv:=lX hwl
 exact(aq (pJ 0 (pv 0) ak (aR (dD (cP 0 (pv 0) ak) ak)))
  (aq (fX (bB anq (jy (cP 0 (pv 0) ak)) (jy ak) (nomark _)) (aq (bz 2 aaF.nd rfl (by first | exact Or.inl rfl | exact Or.inr rfl) (by intro h;cases h) (lN ak))
  (aq (fX (bB afw (jy (cP 0 (pv 0) ak)) (jy (jm (by rfl) z_len (jy (cP 0 (pv 0) ak)))) (nomark _)) (aq (bz 2 aaF.nd rfl (by first | exact Or.inl rfl | exact Or.inr rfl) (by intro h;cases h) (lN (aij (cP 0 (pv 0) ak) (cP 0 (pv 0) ak))))
  (aA (pJ 0 (pv 0) ak (aR (dD (cP 0 (pv 0) ak) ak))))) cV)
  (aq (pJ 0 (pv 0) ak (vf (aR (dD (aR (dD (aR (ahE (cP 0 (pv 0) ak) ak)) (vf (aN 2 (pv 2)) ak))) (cP 0 (pv 0) ak))) ak))
  (aA (fX (bB anr (az 2 (pv 2)) (jy (ak3 ak ak)) (nomark _)) (aA (pJ 0 (pv 0) ak (aN 2 (pv 2)))) cV))))) cV)
  (aq (fX (bB afx (jy (cP 0 (pv 0) ak)) (jy ak) (nomark _)) (aq (bz 3 aaF.nd rfl (by first | exact Or.inl rfl | exact Or.inr rfl) (by intro h;cases h) (lN (vf (cP 0 (pv 0) ak) (aN 1 (pv 1)))))
  (aq (pJ 0 (pv 0) ak (acB (cP 0 (pv 0) ak) (aN 1 (pv 1))))
  (aA (bx (lO 3 (pv 3)))))) cV)
  (aA (bx (lN (vf (acB (vf (aR (ahE (cP 0 (pv 0) ak) ak)) ak) ak) (aN 1 (pv 1)))))))))
theorem zF {f:Addr}{fd:FuncData}(F:Fun K "_law_whole" "_law_whole" cZ f fd) (z_isinstance:mg "isinstance"=none) (z_int:mg "int"=none) (z_bool:mg "bool"=none):FnOk P w K mg base (L2.CX P w) 1 f fd ["_law_found"] (VSp K ca [false] Lw.ig):=by
 refine iT (md:=[false]) ?_ rfl;refine lW (obs:=[]) (md:=[false]) (k:=0) F zr (by decide) (by decide) (iQ (by decide +kernel)) λ cdv A outer s H E ws hr B hwl hob=>?_
 have tk:Takes (ctOf P w K mg base ca uK "_law_whole" (defScope cZ) f cdv A outer s H E [false] ws B).X _:=takes_of rfl rfl rfl rfl
 have hv:=lX hwl
 exact(aA (bx (lN (aaP (j5 (T:="int") (by rfl) z_isinstance (by rfl) z_int (by decide +kernel) (az 0 (pv 0))) (aaO (ak6 (j5 (T:="bool") (by rfl) z_isinstance (by rfl) z_bool (by decide +kernel) (az 0 (pv 0)))))))))
theorem uP {f:Addr}{fd:FuncData}(F:Fun K "_law_same" "_law_same" fj f fd) (D_law_whole:Dx P w K mg base ca "_law_whole" 1 ["_law_found"] [false] Lw.ig) (z_isinstance:mg "isinstance"=none) (z_bool:mg "bool"=none) (z_int:mg "int"=none) (z_str:mg "str"=none) (z_list:mg "list"=none) (z_tuple:mg "tuple"=none) (z_len:mg "len"=none) (z_zip:mg "zip"=none) (hg:mg "_law_same"=some (.ref f)) (hk:W.keepIn K (.ref f)=true) (hb:Binds K fd ["_law_found","_law_due"] []):∀ k_:Nat,Dx P w K mg base ca "_law_same" (2+k_) ["_law_found","_law_due"] Q1 (Lw.cH k_)
 | 0=>agi hg hk hb
 | k_+1=>by
  have D_law_same:=uP F D_law_whole z_isinstance z_bool z_int z_str z_list z_tuple z_len z_zip hg hk hb k_
  refine lU (anp (k:=2+k_) F aaG rfl (by decide) λ cdv A outer s H E vs hr B=>?_) hg hk hb
  have tk:Takes (ctOf P w K mg base ca vY "_law_same" (defScope fj) f cdv A outer s H E Q1 vs B).X _:=takes_of rfl rfl rfl rfl
  exact(aq (fX (bB ala (az 1 (pv 1)) (jy acs) (nomark _)) (aA (bx (lN (wg ala (az 0 (pv 0)) (jy acs) (nomark _))))) cV)
  (aq (fX (kZ (j5 (T:="bool") (by rfl) z_isinstance (by rfl) z_bool (by decide +kernel) (az 1 (pv 1)))) (aA (bx (lN (aaP (j5 (T:="bool") (by rfl) z_isinstance (by rfl) z_bool (by decide +kernel) (az 0 (pv 0))) (aaO (wg (tK hr) (az 0 (pv 0)) (az 1 (pv 1)) (nomark _))))))) cV)
  (aq (fX (kZ (j5 (T:="int") (by rfl) z_isinstance (by rfl) z_int (by decide +kernel) (az 1 (pv 1)))) (aA (bx (lN (aaP (aR (cJ D_law_whole hr (by omega) tk (by rfl) (bV (aN 0 (pv 0)) aF))) (aaO (wg (tK hr) (az 0 (pv 0)) (az 1 (pv 1)) (nomark _))))))) cV)
  (aq (fX (kZ (j5 (T:="str") (by rfl) z_isinstance (by rfl) z_str (by decide +kernel) (az 1 (pv 1)))) (aA (bx (lN (aaP (j5 (T:="str") (by rfl) z_isinstance (by rfl) z_str (by decide +kernel) (az 0 (pv 0))) (aaO (wg (tK hr) (az 0 (pv 0)) (az 1 (pv 1)) (nomark _))))))) cV)
  (aq (fX (aih (xX (bB (abD hr) (jy (j5 (T:="list") (by rfl) z_isinstance (by rfl) z_list (by decide +kernel) (az 1 (pv 1)))) (jy (j5 (T:="list") (by rfl) z_isinstance (by rfl) z_list (by decide +kernel) (az 0 (pv 0)))) (nomark _)) (vg (bB (abD hr) (jy (j5 (T:="tuple") (by rfl) z_isinstance (by rfl) z_tuple (by decide +kernel) (az 1 (pv 1)))) (jy (j5 (T:="tuple") (by rfl) z_isinstance (by rfl) z_tuple (by decide +kernel) (az 0 (pv 0)))) (nomark _))))) (aA (bx (lN sV))) cV)
  (aq (fX (bB (abD hr) (jy (jm (by rfl) z_len (az 0 (pv 0)))) (jy (jm (by rfl) z_len (az 1 (pv 1)))) (nomark _)) (aA (bx (lN sV))) cV)
  (aq (oH PassesOwn.leaving rfl (alY (by rfl) z_zip (aP (aN 0 (pv 0)) (aP (aN 1 (pv 1)) iI))) (ahF rfl (rW (fD 2 (by intro h;cases h) (pg_name (i:=2) aaG.nd rfl (by first | exact Or.inl rfl | exact Or.inr rfl))) (rW (fD 3 (by intro h;cases h) (pg_name (i:=3) aaG.nd rfl (by first | exact Or.inl rfl | exact Or.inr rfl))) acK))) (aA (fX (tD (kZ (aR (cJ D_law_same hr (by omega) tk (by rfl) (bV (aN 2 (pv 2)) (bV (aN 3 (pv 3)) aF)))))) (aA (bx (lN sV))) cV)))
  (aA (bx (lN sV))))))))))
theorem xV {f:Addr}{fd:FuncData}(F:Fun K "_law_unlike" "_law_unlike" cA f fd) (z_range:mg "range"=none) (z_len:mg "len"=none):FnOk P w K mg base (L2.CX P w) 1 f fd ["_law_names_here","_law_name"] (VSp K ca Q0 Lw.fK):=by
 refine iT (md:=[true,false]) ?_ rfl;refine lW (obs:=[]) (md:=[true,false]) (k:=0) F xO (by decide) (by decide) (iQ (by decide +kernel)) λ cdv A outer s H E ws hr B hwl hob=>?_
 have tk:Takes (ctOf P w K mg base ca rO "_law_unlike" (defScope cA) f cdv A outer s H E Q0 ws B).X _:=takes_of rfl rfl rfl rfl
 have hv:=lX hwl
 exact(aq (bz 2 xO.nd rfl (by first | exact Or.inl rfl | exact Or.inr rfl) (by intro h;cases h) (lN aU))
  (aq (bz 3 xO.nd rfl (by first | exact Or.inl rfl | exact Or.inr rfl) (by intro h;cases h) (mZ (az 1 (pv 1)) uR (pH ak)))
  (aq (oH PassesOwn.leaving rfl (m9 (by rfl) z_range (aP (aR (dD (jm (by rfl) z_len (az 0 (pv 0))) ak)) iI)) (fD 4 (by intro h;cases h) (pg_name (i:=4) xO.nd rfl (by first | exact Or.inl rfl | exact Or.inr rfl))) (aq (fX (bB (v9 hr) (az 1 (pv 1)) (az 0 (pv 0)) rfl) (aA (bx (lO 1 (pv 1)))) cV)
  (aA (bz 1 xO.nd rfl (by first | exact Or.inl rfl | exact Or.inr rfl) (by intro h;cases h) (dD (aR (dD (aN 3 (pv 3)) (cP 2 (pv 2) (vf (aN 4 (pv 4)) ak)))) (cP 2 (pv 2) (acB (aN 4 (pv 4)) ak)))))))
  (aA (bx (lO 1 (pv 1)))))))
theorem aaK {f:Addr}{fd:FuncData}(F:Fun K "_law_word" "_law_word" dI f fd) (D_law_next:Dx P w K mg base ca "_law_next" 1 Q2 Q0 Lw.ao) (z_range:mg "range"=none):FnOk P w K mg base (L2.CX P w) 2 f fd Q4 (VSp K ca Q0 Lw.bR):=by
 refine iT (md:=[true,false]) ?_ rfl;refine lW (obs:=[]) (md:=[true,false]) (k:=1) F aaH (by decide) (by decide) (iQ (by decide +kernel)) λ cdv A outer s H E ws hr B hwl hob=>?_
 have tk:Takes (ctOf P w K mg base ca rC "_law_word" (defScope dI) f cdv A outer s H E Q0 ws B).X _:=takes_of rfl rfl rfl rfl
 have hv:=lX hwl
 exact(aq (bz 2 aaH.nd rfl (by first | exact Or.inl rfl | exact Or.inr rfl) (by intro h;cases h) (lN aU))
  (aA (bx (lN (zJ aU (jy (aR (afq (own:=[("_law_k",3)]) rfl aaH.nd (m9 (by rfl) z_range (aP (aN 1 (pv 1)) iI)) (blkOk_by (own:=[("_law_k",3)]) (N:=rC) (sc:=defScope dI) (by decide +kernel)) (λ _=>(fD 3 (by intro h;cases h) (pg_name (i:=3) aaH.nd rfl (by first | exact Or.inl rfl | exact Or.inr rfl)))) (by decide) (by intro k hk;simp only[List.map_cons,List.map_nil,List.mem_cons,List.not_mem_nil,or_false]at hk;rcases hk with rfl<;>(intro h;cases h)) (λ _=>qJ) (λ _=>(cP 2 (pv 2) (aR (cJ D_law_next hr (by decide) takes0 (by rfl) (iJ 0 (pv 0) (bV ak aF))))))))))))))
theorem zG {f:Addr}{fd:FuncData}(F:Fun K "_law_names" "_law_names" dh f fd) (D_law_next:Dx P w K mg base ca "_law_next" 1 Q2 Q0 Lw.ao) (D_law_word:Dx P w K mg base ca "_law_word" 2 Q4 Q0 Lw.bR) (D_law_unlike:Dx P w K mg base ca "_law_unlike" 1 ["_law_names_here","_law_name"] Q0 Lw.fK) (z_len:mg "len"=none) (z_range:mg "range"=none):FnOk P w K mg base (L2.CX P w) 3 f fd Q4 (VSp K ca Q0 Lw.ie):=by
 refine iT (md:=[true,false]) ?_ rfl;refine lW (obs:=[]) (md:=[true,false]) (k:=2) F zu (by decide) (by decide) (iQ (by decide +kernel)) λ cdv A outer s H E ws hr B hwl hob=>?_
 have tk:Takes (ctOf P w K mg base ca uL "_law_names" (defScope dh) f cdv A outer s H E Q0 ws B).X _:=takes_of rfl rfl rfl rfl
 have hv:=lX hwl
 exact(aq (bz 2 zu.nd rfl (by first | exact Or.inl rfl | exact Or.inr rfl) (by intro h;cases h) (cJ D_law_next hr (by decide) tk (by rfl) (iJ 0 (pv 0) (bV ak aF))))
  (aq (bz 3 zu.nd rfl (by first | exact Or.inl rfl | exact Or.inr rfl) (by intro h;cases h) (cJ D_law_word hr (by decide) tk (by rfl) (iJ 0 (pv 0) (bV (aR (dD ak (aR (cJ D_law_next hr (by decide) tk (by rfl) (iJ 0 (pv 0) (bV ak aF)))))) aF))))
  (aq (bz 4 zu.nd rfl (by first | exact Or.inl rfl | exact Or.inr rfl) (by intro h;cases h) (cJ D_law_next hr (by decide) tk (by rfl) (iJ 0 (pv 0) (bV (jm (by rfl) z_len (az 3 (pv 3))) aF))))
  (aq (bz 5 zu.nd rfl (by first | exact Or.inl rfl | exact Or.inr rfl) (by intro h;cases h) (mV iI))
  (aq (oH PassesOwn.leaving rfl (m9 (by rfl) z_range (aP (aN 1 (pv 1)) iI)) (fD 6 (by intro h;cases h) (pg_name (i:=6) zu.nd rfl (by first | exact Or.inl rfl | exact Or.inr rfl))) (aq (bz 7 zu.nd rfl (by first | exact Or.inl rfl | exact Or.inr rfl) (by intro h;cases h) (dD (aR (dD (aR (mZ (az 3 (pv 3)) uR (pH (aN 4 (pv 4))))) (aR (cJ D_law_word hr (by decide) tk (by rfl) (iJ 0 (pv 0) (bV ak aF)))))) (aR (mZ (az 3 (pv 3)) (pH (aR (dD (aN 4 (pv 4)) ak))) uR))))
  (aq (fX (bB (tK hr) (az 2 (pv 2)) (jy ak) (nomark _)) (aA (bz 7 zu.nd rfl (by first | exact Or.inl rfl | exact Or.inr rfl) (by intro h;cases h) (anm (aN 3 (pv 3)) uR (pH (aR (dD ak (aR (cJ D_law_next hr (by decide) tk (by rfl) (iJ 0 (pv 0) (bV (jm (by rfl) z_len (az 3 (pv 3))) aF)))))))))) cV)
  (aq (fX (bB (tK hr) (az 2 (pv 2)) (jy ak) (nomark _)) (aA (bz 7 zu.nd rfl (by first | exact Or.inl rfl | exact Or.inr rfl) (by intro h;cases h) (cJ D_law_word hr (by decide) tk (by rfl) (iJ 0 (pv 0) (bV (aR (dD ak (aR (cJ D_law_next hr (by decide) tk (by rfl) (iJ 0 (pv 0) (bV ak aF)))))) aF))))) cV)
  (aA (tH (m7 5 (pv 5) (aR (cJ D_law_unlike hr (by decide) tk (by rfl) (iJ 5 (pv 5) (bV (aN 7 (pv 7)) aF)))))))))))
  (aA (bx (lO 5 (pv 5)))))))))
theorem xW {f:Addr}{fd:FuncData}(F:Fun K "_law_number" "_law_number" cC f fd) (D_law_next:Dx P w K mg base ca "_law_next" 1 Q2 Q0 Lw.ao):FnOk P w K mg base (L2.CX P w) 2 f fd ["_law_src_here"] (VSp K ca [true] Lw.fL):=by
 refine iT (md:=[true]) ?_ rfl;refine lW (obs:=[]) (md:=[true]) (k:=1) F xP (by decide) (by decide) (iQ (by decide +kernel)) λ cdv A outer s H E ws hr B hwl hob=>?_
 have tk:Takes (ctOf P w K mg base ca rP "_law_number" (defScope cC) f cdv A outer s H E [true] ws B).X _:=takes_of rfl rfl rfl rfl
 have hv:=lX hwl
 exact(aq (bz 1 xP.nd rfl (by first | exact Or.inl rfl | exact Or.inr rfl) (by intro h;cases h) (cJ D_law_next hr (by decide) tk (by rfl) (iJ 0 (pv 0) (bV ak aF))))
  (aq (fX (bB (tK hr) (az 1 (pv 1)) (jy ak) (nomark _)) (aA (bx (lN (aij (aR (mV (aP ak (aP ak (aP ak (aP ak (aP ak (aP ak iI)))))))) (aR (cJ D_law_next hr (by decide) tk (by rfl) (iJ 0 (pv 0) (bV ak aF)))))))) cV)
  (aq (fX (bB (tK hr) (az 1 (pv 1)) (jy ak) (nomark _)) (aA (bx (cJ D_law_next hr (by decide) tk (by rfl) (iJ 0 (pv 0) (bV ak aF))))) cV)
  (aA (bx (cJ D_law_next hr (by decide) tk (by rfl) (iJ 0 (pv 0) (bV ak aF))))))))
theorem ack {f:Addr}{fd:FuncData}(F:Fun K "_law_row" "_law_row" fJ f fd) (D_law_next:Dx P w K mg base ca "_law_next" 1 Q2 Q0 Lw.ao) (z_range:mg "range"=none) (z_len:mg "len"=none):FnOk P w K mg base (L2.CX P w) 2 f fd Q3 (VSp K ca [true,true] Lw.lC):=by
 refine iT (md:=[true,true]) ?_ rfl;refine lW (obs:=[]) (md:=[true,true]) (k:=1) F ach (by decide) (by decide) (iQ (by decide +kernel)) λ cdv A outer s H E ws hr B hwl hob=>?_
 have tk:Takes (ctOf P w K mg base ca uM "_law_row" (defScope fJ) f cdv A outer s H E [true,true] ws B).X _:=takes_of rfl rfl rfl rfl
 have hv:=lX hwl
 exact(aA (bx (afq (own:=[("_law_k",2)]) rfl ach.nd (m9 (by rfl) z_range (aP (aR (cJ D_law_next hr (by decide) tk (by rfl) (iJ 0 (pv 0) (bV (aij (aR (mV (aP ak (aP ak (aP ak (aP ak iI)))))) (aR (cJ D_law_next hr (by decide) tk (by rfl) (iJ 0 (pv 0) (bV ak aF))))) aF)))) iI)) (blkOk_by (own:=[("_law_k",2)]) (N:=uM) (sc:=defScope fJ) (by decide +kernel)) (λ _=>(fD 2 (by intro h;cases h) (pg_name (i:=2) ach.nd rfl (by first | exact Or.inl rfl | exact Or.inr rfl)))) (by decide) (by intro k hk;simp only[List.map_cons,List.map_nil,List.mem_cons,List.not_mem_nil,or_false]at hk;rcases hk with rfl<;>(intro h;cases h)) (λ _=>qJ) (λ _=>(cP 1 (pv 1) (aR (cJ D_law_next hr (by decide) takes0 (by rfl) (iJ 0 (pv 0) (bV (jm (by rfl) z_len (az 1 (pv 1))) aF)))))))))
theorem aaL {f:Addr}{fd:FuncData}(F:Fun K "_law_form" "_law_form" fu f fd) :FnOk P w K mg base (L2.CX P w) 1 f fd ["_law_word_here"] (VSp K ca [false] Lw.lB):=by
 refine iT (md:=[false]) ?_ rfl;refine lW (obs:=[]) (md:=[false]) (k:=0) F aaI (by decide) (by decide) (iQ (by decide +kernel)) λ cdv A outer s H E ws hr B hwl hob=>?_
 have tk:Takes (ctOf P w K mg base ca vZ "_law_form" (defScope fu) f cdv A outer s H E [false] ws B).X _:=takes_of rfl rfl rfl rfl
 have hv:=lX hwl
 exact(aq (bz 1 aaI.nd rfl (by first | exact Or.inl rfl | exact Or.inr rfl) (by intro h;cases h) (aa4 (jg aU aU (jg aU aU (jg aU aU (jg aU aU (jg aU aU (jg aU aU adE)))))) rfl rfl (by simp) (by simp)))
  (aq (bz 2 aaI.nd rfl (by first | exact Or.inl rfl | exact Or.inr rfl) (by intro h;cases h) (aa4 (jg aU aU (jg aU aU (jg aU aU (jg aU aU adE)))) rfl rfl (by simp) (by simp)))
  (aA (bx (lN (aa5 hr (wA (pv 1)) (aN 0 (pv 0)) (aa5 hr (wA (pv 2)) (aN 0 (pv 0)) acs)))))))
theorem uQ {f:Addr}{fd:FuncData}(F:Fun K "_law_any_deed" "_law_any_deed" bf f fd) (D_law_next:Dx P w K mg base ca "_law_next" 1 Q2 Q0 Lw.ao) (D_law_form:Dx P w K mg base ca "_law_form" 1 ["_law_word_here"] [false] Lw.lB) (D_law_number:Dx P w K mg base ca "_law_number" 2 ["_law_src_here"] [true] Lw.fL) (D_law_row:Dx P w K mg base ca "_law_row" 2 Q3 [true,true] Lw.lC) (z_len:mg "len"=none) (z_tuple:mg "tuple"=none):FnOk P w K mg base (L2.CX P w) 3 f fd Q3 (VSp K ca [true,true] Lw.gJ):=by
 refine iT (md:=[true,true]) ?_ rfl;refine lW (obs:=[]) (md:=[true,true]) (k:=2) F uN (by decide) (by decide) (iQ (by decide +kernel)) λ cdv A outer s H E ws hr B hwl hob=>?_
 have tk:Takes (ctOf P w K mg base ca oX "_law_any_deed" (defScope bf) f cdv A outer s H E [true,true] ws B).X _:=takes_of rfl rfl rfl rfl
 have hv:=lX hwl
 exact(aq (bz 2 uN.nd rfl (by first | exact Or.inl rfl | exact Or.inr rfl) (by intro h;cases h) (mV (aP aU (aP aU (aP aU (aP aU (aP aU (aP aU (aP aU (aP aU (aP aU (aP aU iI))))))))))))
  (aq (bz 3 uN.nd rfl (by first | exact Or.inl rfl | exact Or.inr rfl) (by intro h;cases h) (lN (cP 2 (pv 2) (aR (cJ D_law_next hr (by decide) tk (by rfl) (iJ 0 (pv 0) (bV ak aF)))))))
  (aq (bz 4 uN.nd rfl (by first | exact Or.inl rfl | exact Or.inr rfl) (by intro h;cases h) (mV (aP (aN 3 (pv 3)) iI)))
  (aq (oH PassesOwn.leaving rfl (pQ (aR (cJ D_law_form hr (by decide) tk (by rfl) (bV (aN 3 (pv 3)) aF)))) (fD 5 (by intro h;cases h) (pg_name (i:=5) uN.nd rfl (by first | exact Or.inl rfl | exact Or.inr rfl))) (aA (fX (bB (tK hr) (az 5 (pv 5)) (jy aU) (nomark _)) (aA (tH (m7 4 (pv 4) (cP 1 (pv 1) (aR (cJ D_law_next hr (by decide) tk (by rfl) (iJ 0 (pv 0) (bV (jm (by rfl) z_len (az 1 (pv 1))) aF)))))))) (aA (fX (bB (tK hr) (az 5 (pv 5)) (jy aU) (nomark _)) (aA (tH (m7 4 (pv 4) (aR (cJ D_law_number hr (by decide) tk (by rfl) (iJ 0 (pv 0) aF)))))) (aA (bz 4 uN.nd rfl (by first | exact Or.inl rfl | exact Or.inr rfl) (by intro h;cases h) (dD (aN 4 (pv 4)) (aR (mV (aP (aR (cJ D_law_row hr (by decide) tk (by rfl) (iJ 0 (pv 0) (iJ 1 (pv 1) aF)))) (aP (aR (cJ D_law_row hr (by decide) tk (by rfl) (iJ 0 (pv 0) (iJ 1 (pv 1) aF)))) iI))))))))))))
  (aA (bx (lN (adB (by rfl) z_tuple (az 4 (pv 4))))))))))
theorem zH {f:Addr}{fd:FuncData}(F:Fun K "_law_shown" "_law_shown" du f fd) (z_isinstance:mg "isinstance"=none) (z_list:mg "list"=none) (z_str:mg "str"=none):FnOk P w K mg base (L2.CX P w) 1 f fd ["_law_deed"] (VSp K ca [false] Lw.jM):=by
 refine iT (md:=[false]) ?_ rfl;refine lW (obs:=[]) (md:=[false]) (k:=0) F zA (by decide) (by decide) (iQ (by decide +kernel)) λ cdv A outer s H E ws hr B hwl hob=>?_
 have tk:Takes (ctOf P w K mg base ca uO "_law_shown" (defScope du) f cdv A outer s H E [false] ws B).X _:=takes_of rfl rfl rfl rfl
 have hv:=lX hwl
 exact(aq (bz 1 zA.nd rfl (by first | exact Or.inl rfl | exact Or.inr rfl) (by intro h;cases h) (lN (cP 0 (pv 0) ak)))
  (aq (bz 2 zA.nd rfl (by first | exact Or.inl rfl | exact Or.inr rfl) (by intro h;cases h) (lN aU))
  (aq (oH PassesOwn.leaving rfl (pQ (aR (mZ (az 0 (pv 0)) (pH ak) uR))) (fD 3 (by intro h;cases h) (pg_name (i:=3) zA.nd rfl (by first | exact Or.inl rfl | exact Or.inr rfl))) (aA (fX (kZ (j5 (T:="list") (by rfl) z_isinstance (by rfl) z_list (by decide +kernel) (az 3 (pv 3)))) (aq (bz 1 zA.nd rfl (by first | exact Or.inl rfl | exact Or.inr rfl) (by intro h;cases h) (dD (aN 1 (pv 1)) (aN 2 (pv 2))))
  (aq (bz 2 zA.nd rfl (by first | exact Or.inl rfl | exact Or.inr rfl) (by intro h;cases h) (lN aU))
  (aA (oH PassesOwn.leaving rfl (pQ (aN 3 (pv 3))) (fD 4 (by intro h;cases h) (pg_name (i:=4) zA.nd rfl (by first | exact Or.inl rfl | exact Or.inr rfl))) (aA (bz 1 zA.nd rfl (by first | exact Or.inl rfl | exact Or.inr rfl) (by intro h;cases h) (dD (aR (dD (aN 1 (pv 1)) aU)) (aN 4 (pv 4))))))))) (aA (bz 1 zA.nd rfl (by first | exact Or.inl rfl | exact Or.inr rfl) (by intro h;cases h) (dD (aR (dD (aN 1 (pv 1)) aU)) (z7 (by rfl) z_str (az 3 (pv 3)))))))))
  (aA (bx (lO 1 (pv 1)))))))
theorem am9 {f:Addr}{fd:FuncData}(F:Fun K "law" "law" pF f fd) (D_law_src:Dx P w K mg base ca "_law_src" 1 ["_law_script"] [true] Lw.lw) (D_law_names:Dx P w K mg base ca "_law_names" 3 Q4 Q0 Lw.ie) (D_law_next:Dx P w K mg base ca "_law_next" 1 Q2 Q0 Lw.ao) (D_law_any_deed:Dx P w K mg base ca "_law_any_deed" 3 Q3 [true,true] Lw.gJ) (D_law_shown:Dx P w K mg base ca "_law_shown" 1 ["_law_deed"] [false] Lw.jM) (D_law_same:Dx P w K mg base ca "_law_same" 14 ["_law_found","_law_due"] Q1 (Lw.cH 12)) (D_shown_deed:Dx P w K mg base ca "shown_deed" 1 ["deed"] [false] Lw.iz) (D_read_deed:Dx P w K mg base ca "read_deed" 4 ["text"] [false] Lw.fB) (z_range:mg "range"=none) (z_tuple:mg "tuple"=none) (z_isinstance:mg "isinstance"=none) (z_list:mg "list"=none):FnOk P w K mg base (L2.CX P w) 15 f fd ["_law_script"] (VSp K ca [true] Lw.jd):=by
 refine iT (md:=[true]) ?_ rfl;refine lW (obs:=[]) (md:=[true]) (k:=14) F am8 (by decide) (by decide) (iQ (by decide +kernel)) λ cdv A outer s H E ws hr B hwl hob=>?_
 have tk:Takes (ctOf P w K mg base ca akO "law" (defScope pF) f cdv A outer s H E [true] ws B).X _:=takes_of rfl rfl rfl rfl
 have hv:=lX hwl
 exact(aq (bz 1 am8.nd rfl (by first | exact Or.inl rfl | exact Or.inr rfl) (by intro h;cases h) (cJ D_law_src hr (by decide) tk (by rfl) (iJ 0 (pv 0) aF)))
  (aq (bz 2 am8.nd rfl (by first | exact Or.inl rfl | exact Or.inr rfl) (by intro h;cases h) (lN (aR (cJ D_law_names hr (by decide) tk (by rfl) (iJ 1 (pv 1) (bV (aR (dD ak (aR (cJ D_law_next hr (by decide) tk (by rfl) (iJ 1 (pv 1) (bV ak aF)))))) aF))))))
  (aq (oH PassesOwn.leaving rfl (m9 (by rfl) z_range (aP ak iI)) (fD 3 (by intro h;cases h) (pg_name (i:=3) am8.nd rfl (by first | exact Or.inl rfl | exact Or.inr rfl))) (aq (bz 4 am8.nd rfl (by first | exact Or.inl rfl | exact Or.inr rfl) (by intro h;cases h) (lN (aR (cJ D_law_any_deed hr (by decide) tk (by rfl) (iJ 1 (pv 1) (iJ 2 (pv 2) aF))))))
  (aq (bz 5 am8.nd rfl (by first | exact Or.inl rfl | exact Or.inr rfl) (by intro h;cases h) (lN (ahP (adD (by rfl) z_tuple (amf (own:=[("_law_part",8)]) (j:=8) rfl am8.nd (ajt (wA (pv 4))) (blkOk_by (own:=[("_law_part",8)]) (N:=akO) (sc:=defScope pF) (by decide +kernel)) (λ _=>(pg_name (i:=8) am8.nd rfl (by first | exact Or.inl rfl | exact Or.inr rfl))) rfl (by intro h;cases h) (λ _=>(aod (ajx (kZ (j5 (T:="list") (by rfl) z_isinstance (by rfl) z_list (by decide +kernel) (az 8 (pv 8))))) (ajs (acJ (by rfl) z_list (az 8 (pv 8)))) (lN (ajr (aN 8 (pv 8)))))))))))
  (aq (bz 6 am8.nd rfl (by first | exact Or.inl rfl | exact Or.inr rfl) (by intro h;cases h) (lN (aR (cJ D_law_shown hr (by decide) tk (by rfl) (bV (aN 4 (pv 4)) aF)))))
  (aq (fX (aih (xX (tD (kZ (aR (cJ D_law_same hr (by decide) tk (by rfl) (bV (aR (cJ D_shown_deed hr (by decide) tk (by rfl) (bV (aN 5 (pv 5)) aF))) (bV (aN 6 (pv 6)) aF)))))) (vg (tD (kZ (aR (cJ D_law_same hr (by decide) tk (by rfl) (bV (aN 5 (pv 5)) (bV (aN 4 (pv 4)) aF))))))))) (aA (bx (lN sV))) cV)
  (aq (bz 7 am8.nd rfl (by first | exact Or.inl rfl | exact Or.inr rfl) (by intro h;cases h) (cJ D_read_deed hr (by decide) tk (by rfl) (bV (aN 6 (pv 6)) aF)))
  (aq (fX (tD (kZ (agF (aR (cJ D_law_same hr (by decide) tk (by rfl) (bV (aN 7 (pv 7)) (bV (aN 4 (pv 4)) aF))))))) (aA (bx (lN sV))) cV)
  (aq (agG PassesOwn.leaving rfl (wA (pv 7)) (by intro h;cases h) (kZ (j5 (T:="list") (by rfl) z_isinstance (by rfl) z_list (by decide +kernel) (az 8 (pv 8)))) (pg_name (i:=8) am8.nd rfl (by first | exact Or.inl rfl | exact Or.inr rfl)) (pv 8))
  (aA (fX (aih (xX (tD (kZ (aR (cJ D_law_same hr (by decide) tk (by rfl) (bV (ahP (cJ D_read_deed hr (by decide) tk (by rfl) (bV (aN 6 (pv 6)) aF))) (bV (aN 4 (pv 4)) aF)))))) (vg (tD (kZ (aR (cJ D_law_same hr (by decide) tk (by rfl) (bV (aR (cJ D_shown_deed hr (by decide) tk (by rfl) (bV (aN 5 (pv 5)) aF))) (bV (aN 6 (pv 6)) aF))))))))) (aA (bx (lN sV))) cV))))))))))
  (aA (bx (lN sV))))))
end
theorem ahI {l:W.OpenLaw}{w:World}{K:W.Frag}{h:Heap}{mg:Str->Option Value}{fa:Addr}(X:K.In h)(G:h.Ns mainGlobals mg)(hfa:mg "law"=some (.ref fa))
  {f0:Addr} {od0 an0:Option Addr} {sl0:Array (Option Value)} {oc0 kV0 dc0 pm0 cd0 ct0:Value}
  {f1:Addr} {od1 an1:Option Addr} {sl1:Array (Option Value)} {oc1 kV1 dc1 pm1 cd1 ct1:Value}
  {f2:Addr} {od2 an2:Option Addr} {sl2:Array (Option Value)} {oc2 kV2 dc2 pm2 cd2 ct2:Value}
  {f3:Addr} {od3 an3:Option Addr} {sl3:Array (Option Value)} {oc3 kV3 dc3 pm3 cd3 ct3:Value}
  {f4:Addr} {od4 an4:Option Addr} {sl4:Array (Option Value)} {oc4 kV4 dc4 pm4 cd4 ct4:Value}
  {f5:Addr} {od5 an5:Option Addr} {sl5:Array (Option Value)} {oc5 kV5 dc5 pm5 cd5 ct5:Value}
  {f6:Addr} {od6 an6:Option Addr} {sl6:Array (Option Value)} {oc6 kV6 dc6 pm6 cd6 ct6:Value}
  {f7:Addr} {od7 an7:Option Addr} {sl7:Array (Option Value)} {oc7 kV7 dc7 pm7 cd7 ct7:Value}
  {f8:Addr} {od8 an8:Option Addr} {sl8:Array (Option Value)} {oc8 kV8 dc8 pm8 cd8 ct8:Value}
  {f9:Addr} {od9 an9:Option Addr} {sl9:Array (Option Value)} {oc9 kV9 dc9 pm9 cd9 ct9:Value}
  {f10:Addr} {od10 an10:Option Addr} {sl10:Array (Option Value)} {oc10 kV10 dc10 pm10 cd10 ct10:Value}
  {f11:Addr} {od11 an11:Option Addr} {sl11:Array (Option Value)} {oc11 kV11 dc11 pm11 cd11 ct11:Value}
  {f12:Addr} {od12 an12:Option Addr} {sl12:Array (Option Value)} {oc12 kV12 dc12 pm12 cd12 ct12:Value}
  {f13:Addr} {od13 an13:Option Addr} {sl13:Array (Option Value)} {oc13 kV13 dc13 pm13 cd13 ct13:Value}
  {f14:Addr} {od14 an14:Option Addr} {sl14:Array (Option Value)} {oc14 kV14 dc14 pm14 cd14 ct14:Value}
  {f15:Addr} {od15 an15:Option Addr} {sl15:Array (Option Value)} {oc15 kV15 dc15 pm15 cd15 ct15:Value}
  {f16:Addr} {od16 an16:Option Addr} {sl16:Array (Option Value)} {oc16 kV16 dc16 pm16 cd16 ct16:Value}
  {f17:Addr} {od17 an17:Option Addr} {sl17:Array (Option Value)} {oc17 kV17 dc17 pm17 cd17 ct17:Value}
  {f18:Addr} {od18 an18:Option Addr} {sl18:Array (Option Value)} {oc18 kV18 dc18 pm18 cd18 ct18:Value}
  {f19:Addr} {od19 an19:Option Addr} {sl19:Array (Option Value)} {oc19 kV19 dc19 pm19 cd19 ct19:Value}
  {t_LETTERS:Tok}
  {t_CASES:Addr} {od_CASES:Option Addr} {n_CASES:Nat} {sl_CASES:Array (Option Value)} {u0_CASES u1_CASES u2_CASES:Tok}
  {t_FIGURES:Tok}
  {t_FORMS:Addr}
  (a0:W.nsIn K mainGlobals "is_name"=some (some (.ref f0))) (l0:K.lookup f0=some ⟨oc0,od0,.func (W.fnOf "is_name" "is_name" (defArgs gj) (defBody gj) (defScope gj) .none kV0 dc0 pm0 an0 cd0 ct0),sl0⟩) (c0:W.codeIn K cd0 "is_name"=true) (k0:W.keepIn K (.ref f0)=true)
  (a1:W.nsIn K mainGlobals "shown_deed"=some (some (.ref f1))) (l1:K.lookup f1=some ⟨oc1,od1,.func (W.fnOf "shown_deed" "shown_deed" (defArgs bj) (defBody bj) (defScope bj) .none kV1 dc1 pm1 an1 cd1 ct1),sl1⟩) (c1:W.codeIn K cd1 "shown_deed"=true) (k1:W.keepIn K (.ref f1)=true)
  (a2:W.nsIn K mainGlobals "read_number"=some (some (.ref f2))) (l2:K.lookup f2=some ⟨oc2,od2,.func (W.fnOf "read_number" "read_number" (defArgs bG) (defBody bG) (defScope bG) .none kV2 dc2 pm2 an2 cd2 ct2),sl2⟩) (c2:W.codeIn K cd2 "read_number"=true) (k2:W.keepIn K (.ref f2)=true)
  (a3:W.nsIn K mainGlobals "read_name"=some (some (.ref f3))) (l3:K.lookup f3=some ⟨oc3,od3,.func (W.fnOf "read_name" "read_name" (defArgs cX) (defBody cX) (defScope cX) .none kV3 dc3 pm3 an3 cd3 ct3),sl3⟩) (c3:W.codeIn K cd3 "read_name"=true) (k3:W.keepIn K (.ref f3)=true)
  (a4:W.nsIn K mainGlobals "read_words"=some (some (.ref f4))) (l4:K.lookup f4=some ⟨oc4,od4,.func (W.fnOf "read_words" "read_words" (defArgs bZ) (defBody bZ) (defScope bZ) .none kV4 dc4 pm4 an4 cd4 ct4),sl4⟩) (c4:W.codeIn K cd4 "read_words"=true) (k4:W.keepIn K (.ref f4)=true)
  (a5:W.nsIn K mainGlobals "read_sides"=some (some (.ref f5))) (l5:K.lookup f5=some ⟨oc5,od5,.func (W.fnOf "read_sides" "read_sides" (defArgs bu) (defBody bu) (defScope bu) .none kV5 dc5 pm5 an5 cd5 ct5),sl5⟩) (c5:W.codeIn K cd5 "read_sides"=true) (k5:W.keepIn K (.ref f5)=true)
  (a6:W.nsIn K mainGlobals "read_deed"=some (some (.ref f6))) (l6:K.lookup f6=some ⟨oc6,od6,.func (W.fnOf "read_deed" "read_deed" (defArgs cY) (defBody cY) (defScope cY) .none kV6 dc6 pm6 an6 cd6 ct6),sl6⟩) (c6:W.codeIn K cd6 "read_deed"=true) (k6:W.keepIn K (.ref f6)=true)
  (a7:W.nsIn K mainGlobals "_law_src"=some (some (.ref f7))) (l7:K.lookup f7=some ⟨oc7,od7,.func (W.fnOf "_law_src" "_law_src" (defArgs gq) (defBody gq) (defScope gq) .none kV7 dc7 pm7 an7 cd7 ct7),sl7⟩) (c7:W.codeIn K cd7 "_law_src"=true) (k7:W.keepIn K (.ref f7)=true)
  (a8:W.nsIn K mainGlobals "_law_next"=some (some (.ref f8))) (l8:K.lookup f8=some ⟨oc8,od8,.func (W.fnOf "_law_next" "_law_next" (defArgs eZ) (defBody eZ) (defScope eZ) .none kV8 dc8 pm8 an8 cd8 ct8),sl8⟩) (c8:W.codeIn K cd8 "_law_next"=true) (k8:W.keepIn K (.ref f8)=true)
  (a9:W.nsIn K mainGlobals "_law_whole"=some (some (.ref f9))) (l9:K.lookup f9=some ⟨oc9,od9,.func (W.fnOf "_law_whole" "_law_whole" (defArgs cZ) (defBody cZ) (defScope cZ) .none kV9 dc9 pm9 an9 cd9 ct9),sl9⟩) (c9:W.codeIn K cd9 "_law_whole"=true) (k9:W.keepIn K (.ref f9)=true)
  (a10:W.nsIn K mainGlobals "_law_same"=some (some (.ref f10))) (l10:K.lookup f10=some ⟨oc10,od10,.func (W.fnOf "_law_same" "_law_same" (defArgs fj) (defBody fj) (defScope fj) .none kV10 dc10 pm10 an10 cd10 ct10),sl10⟩) (c10:W.codeIn K cd10 "_law_same"=true) (k10:W.keepIn K (.ref f10)=true)
  (a11:W.nsIn K mainGlobals "_law_unlike"=some (some (.ref f11))) (l11:K.lookup f11=some ⟨oc11,od11,.func (W.fnOf "_law_unlike" "_law_unlike" (defArgs cA) (defBody cA) (defScope cA) .none kV11 dc11 pm11 an11 cd11 ct11),sl11⟩) (c11:W.codeIn K cd11 "_law_unlike"=true) (k11:W.keepIn K (.ref f11)=true)
  (a12:W.nsIn K mainGlobals "_law_word"=some (some (.ref f12))) (l12:K.lookup f12=some ⟨oc12,od12,.func (W.fnOf "_law_word" "_law_word" (defArgs dI) (defBody dI) (defScope dI) .none kV12 dc12 pm12 an12 cd12 ct12),sl12⟩) (c12:W.codeIn K cd12 "_law_word"=true) (k12:W.keepIn K (.ref f12)=true)
  (a13:W.nsIn K mainGlobals "_law_names"=some (some (.ref f13))) (l13:K.lookup f13=some ⟨oc13,od13,.func (W.fnOf "_law_names" "_law_names" (defArgs dh) (defBody dh) (defScope dh) .none kV13 dc13 pm13 an13 cd13 ct13),sl13⟩) (c13:W.codeIn K cd13 "_law_names"=true) (k13:W.keepIn K (.ref f13)=true)
  (a14:W.nsIn K mainGlobals "_law_number"=some (some (.ref f14))) (l14:K.lookup f14=some ⟨oc14,od14,.func (W.fnOf "_law_number" "_law_number" (defArgs cC) (defBody cC) (defScope cC) .none kV14 dc14 pm14 an14 cd14 ct14),sl14⟩) (c14:W.codeIn K cd14 "_law_number"=true) (k14:W.keepIn K (.ref f14)=true)
  (a15:W.nsIn K mainGlobals "_law_row"=some (some (.ref f15))) (l15:K.lookup f15=some ⟨oc15,od15,.func (W.fnOf "_law_row" "_law_row" (defArgs fJ) (defBody fJ) (defScope fJ) .none kV15 dc15 pm15 an15 cd15 ct15),sl15⟩) (c15:W.codeIn K cd15 "_law_row"=true) (k15:W.keepIn K (.ref f15)=true)
  (a16:W.nsIn K mainGlobals "_law_form"=some (some (.ref f16))) (l16:K.lookup f16=some ⟨oc16,od16,.func (W.fnOf "_law_form" "_law_form" (defArgs fu) (defBody fu) (defScope fu) .none kV16 dc16 pm16 an16 cd16 ct16),sl16⟩) (c16:W.codeIn K cd16 "_law_form"=true) (k16:W.keepIn K (.ref f16)=true)
  (a17:W.nsIn K mainGlobals "_law_any_deed"=some (some (.ref f17))) (l17:K.lookup f17=some ⟨oc17,od17,.func (W.fnOf "_law_any_deed" "_law_any_deed" (defArgs bf) (defBody bf) (defScope bf) .none kV17 dc17 pm17 an17 cd17 ct17),sl17⟩) (c17:W.codeIn K cd17 "_law_any_deed"=true) (k17:W.keepIn K (.ref f17)=true)
  (a18:W.nsIn K mainGlobals "_law_shown"=some (some (.ref f18))) (l18:K.lookup f18=some ⟨oc18,od18,.func (W.fnOf "_law_shown" "_law_shown" (defArgs du) (defBody du) (defScope du) .none kV18 dc18 pm18 an18 cd18 ct18),sl18⟩) (c18:W.codeIn K cd18 "_law_shown"=true) (k18:W.keepIn K (.ref f18)=true)
  (a19:W.nsIn K mainGlobals "law"=some (some (.ref f19))) (l19:K.lookup f19=some ⟨oc19,od19,.func (W.fnOf "law" "law" (defArgs pF) (defBody pF) (defScope pF) .none kV19 dc19 pm19 an19 cd19 ct19),sl19⟩) (c19:W.codeIn K cd19 "law"=true) (k19:W.keepIn K (.ref f19)=true)
  (y_len:W.nsIn K mainGlobals "len"=some none)
  (y_str:W.nsIn K mainGlobals "str"=some none)
  (y_int:W.nsIn K mainGlobals "int"=some none)
  (y_zip:W.nsIn K mainGlobals "zip"=some none)
  (y_tuple:W.nsIn K mainGlobals "tuple"=some none)
  (y_list:W.nsIn K mainGlobals "list"=some none)
  (y_isinstance:W.nsIn K mainGlobals "isinstance"=some none)
  (y_bool:W.nsIn K mainGlobals "bool"=some none)
  (y_range:W.nsIn K mainGlobals "range"=some none)
  (y_LETTERS:W.nsIn K mainGlobals "LETTERS"=some (some (.str "abcdefghijklmnopqrstuvwxyz" t_LETTERS)))
  (y_CASES:W.nsIn K mainGlobals "CASES"=some (some (.ref t_CASES))) (w_CASES:K.lookup t_CASES=some ⟨.type "tuple",od_CASES,.seq #[.str "claim" u0_CASES,.str "wergild" u1_CASES,.str "accuse" u2_CASES] n_CASES,sl_CASES⟩)
  (y_FIGURES:W.nsIn K mainGlobals "FIGURES"=some (some (.str "0123456789" t_FIGURES)))
  (y_FORMS:W.nsIn K mainGlobals "FORMS"=some (some (.ref t_FORMS))) (w_FORMS:KTab K w t_FORMS [("come","abb"),("rise","abb"),("die","aba"),("penance","a"),("bring","ab"),("give","baab"),("pay","aabb"),("claim","abbb"),("wergild","aabbb"),("accuse","babb")])
  : ∃ fd:FuncData,(∀ (s:Shared) (v:Value),BindsTo s fd ⟨[v],[]⟩ [("_law_script",v)])/\∀ base:Heap,K.In base->base.Ns mainGlobals mg->FnOk l.prog w K mg base (L2.CX l.prog w) 15 fa fd ["_law_script"] (VSp K (λ _=>0) [true] Lw.jd):=by
 have e:=hfa.symm.trans (W.mg_of X G a19)
 cases e
 have z_len:=W.mg_none_of X G y_len
 have z_str:=W.mg_none_of X G y_str
 have z_int:=W.mg_none_of X G y_int
 have z_zip:=W.mg_none_of X G y_zip
 have z_tuple:=W.mg_none_of X G y_tuple
 have z_list:=W.mg_none_of X G y_list
 have z_isinstance:=W.mg_none_of X G y_isinstance
 have z_bool:=W.mg_none_of X G y_bool
 have z_range:=W.mg_none_of X G y_range
 have z_LETTERS:∃ t,mg "LETTERS"=some (.str "abcdefghijklmnopqrstuvwxyz" t):=⟨_,W.mg_of X G y_LETTERS⟩
 have z_CASES:∃ t,mg "CASES"=some (.ref t)/\KTx K t ["claim","wergild","accuse"]:=⟨_,W.mg_of X G y_CASES,_,_,_,w_CASES,rfl,rfl,by rw[sizeLine_eq];first | (show 3<=16777216;decide) | exact Nat.le_of_ble_eq_true rfl | simp,.cons ⟨_,rfl⟩ (.cons ⟨_,rfl⟩ (.cons ⟨_,rfl⟩ .nil))⟩
 have z_FIGURES:∃ t,mg "FIGURES"=some (.str "0123456789" t):=⟨_,W.mg_of X G y_FIGURES⟩
 have z_FORMS:∃ t,mg "FORMS"=some (.ref t)/\KTab K w t [("come","abb"),("rise","abb"),("die","aba"),("penance","a"),("bring","ab"),("give","baab"),("pay","aabb"),("claim","abbb"),("wergild","aabbb"),("accuse","babb")]:=⟨_,W.mg_of X G y_FORMS,w_FORMS⟩
 have F0:=fun_mk (st:=gj) l0 c0 k0
 have b0:=F0.binds (ps:=["text"]) λ _ _ _ _ _ _ us hl=>match us,hl with | [_],_=>rfl
 have F1:=fun_mk (st:=bj) l1 c1 k1
 have b1:=F1.binds (ps:=["deed"]) λ _ _ _ _ _ _ us hl=>match us,hl with | [_],_=>rfl
 have F2:=fun_mk (st:=bG) l2 c2 k2
 have b2:=F2.binds (ps:=["word"]) λ _ _ _ _ _ _ us hl=>match us,hl with | [_],_=>rfl
 have F3:=fun_mk (st:=cX) l3 c3 k3
 have b3:=F3.binds (ps:=["word"]) λ _ _ _ _ _ _ us hl=>match us,hl with | [_],_=>rfl
 have F4:=fun_mk (st:=bZ) l4 c4 k4
 have b4:=F4.binds (ps:=["words","form"]) λ _ _ _ _ _ _ us hl=>match us,hl with | [_,_],_=>rfl
 have F5:=fun_mk (st:=bu) l5 c5 k5
 have b5:=F5.binds (ps:=["words"]) λ _ _ _ _ _ _ us hl=>match us,hl with | [_],_=>rfl
 have F6:=fun_mk (st:=cY) l6 c6 k6
 have b6:=F6.binds (ps:=["text"]) λ _ _ _ _ _ _ us hl=>match us,hl with | [_],_=>rfl
 have F7:=fun_mk (st:=gq) l7 c7 k7
 have b7:=F7.binds (ps:=["_law_script"]) λ _ _ _ _ _ _ us hl=>match us,hl with | [_],_=>rfl
 have F8:=fun_mk (st:=eZ) l8 c8 k8
 have b8:=F8.binds (ps:=["_law_src_here","_law_base"]) λ _ _ _ _ _ _ us hl=>match us,hl with | [_,_],_=>rfl
 have F9:=fun_mk (st:=cZ) l9 c9 k9
 have b9:=F9.binds (ps:=["_law_found"]) λ _ _ _ _ _ _ us hl=>match us,hl with | [_],_=>rfl
 have F10:=fun_mk (st:=fj) l10 c10 k10
 have b10:=F10.binds (ps:=["_law_found","_law_due"]) λ _ _ _ _ _ _ us hl=>match us,hl with | [_,_],_=>rfl
 have F11:=fun_mk (st:=cA) l11 c11 k11
 have b11:=F11.binds (ps:=["_law_names_here","_law_name"]) λ _ _ _ _ _ _ us hl=>match us,hl with | [_,_],_=>rfl
 have F12:=fun_mk (st:=dI) l12 c12 k12
 have b12:=F12.binds (ps:=["_law_src_here","_law_many"]) λ _ _ _ _ _ _ us hl=>match us,hl with | [_,_],_=>rfl
 have F13:=fun_mk (st:=dh) l13 c13 k13
 have b13:=F13.binds (ps:=["_law_src_here","_law_many"]) λ _ _ _ _ _ _ us hl=>match us,hl with | [_,_],_=>rfl
 have F14:=fun_mk (st:=cC) l14 c14 k14
 have b14:=F14.binds (ps:=["_law_src_here"]) λ _ _ _ _ _ _ us hl=>match us,hl with | [_],_=>rfl
 have F15:=fun_mk (st:=fJ) l15 c15 k15
 have b15:=F15.binds (ps:=["_law_src_here","_law_names_here"]) λ _ _ _ _ _ _ us hl=>match us,hl with | [_,_],_=>rfl
 have F16:=fun_mk (st:=fu) l16 c16 k16
 have b16:=F16.binds (ps:=["_law_word_here"]) λ _ _ _ _ _ _ us hl=>match us,hl with | [_],_=>rfl
 have F17:=fun_mk (st:=bf) l17 c17 k17
 have b17:=F17.binds (ps:=["_law_src_here","_law_names_here"]) λ _ _ _ _ _ _ us hl=>match us,hl with | [_,_],_=>rfl
 have F18:=fun_mk (st:=du) l18 c18 k18
 have b18:=F18.binds (ps:=["_law_deed"]) λ _ _ _ _ _ _ us hl=>match us,hl with | [_],_=>rfl
 have F19:=fun_mk (st:=pF) l19 c19 k19
 refine⟨W.fnOf "law" "law" (defArgs pF) (defBody pF) (defScope pF) .none kV19 dc19 pm19 an19 cd19 ct19,λ s v=>.of_eq rfl,λ base _ _=>?_⟩
 have D_is_name:=lU (aci (P:=l.prog) (w:=w) (base:=base) (ca:=λ _=>0) F0 z_len z_LETTERS) (W.mg_of X G a0) k0 b0
 have D_shown_deed:=lU (xQ (P:=l.prog) (w:=w) (base:=base) (ca:=λ _=>0) F1 z_str z_CASES) (W.mg_of X G a1) k1 b1
 have D_read_number:=lU (uY (P:=l.prog) (w:=w) (base:=base) (ca:=λ _=>0) F2 z_len z_int z_FIGURES) (W.mg_of X G a2) k2 b2
 have D_read_name:=lU (zB (P:=l.prog) (w:=w) (base:=base) (ca:=λ _=>0) F3 D_is_name) (W.mg_of X G a3) k3 b3
 have D_read_words:=lU (xR (P:=l.prog) (w:=w) (base:=base) (ca:=λ _=>0) F4 D_read_name D_read_number z_len z_zip) (W.mg_of X G a4) k4 b4
 have D_read_sides:=lU (xU (P:=l.prog) (w:=w) (base:=base) (ca:=λ _=>0) F5 D_read_name z_len) (W.mg_of X G a5) k5 b5
 have D_read_deed:=lU (zE (P:=l.prog) (w:=w) (base:=base) (ca:=λ _=>0) F6 D_read_words D_read_sides z_tuple z_len z_FORMS z_CASES) (W.mg_of X G a6) k6 b6
 have D_law_src:=lU (acj (P:=l.prog) (w:=w) (base:=base) (ca:=λ _=>0) F7 z_list) (W.mg_of X G a7) k7 b7
 have D_law_next:=lU (aaJ (P:=l.prog) (w:=w) (base:=base) (ca:=λ _=>0) F8 z_len) (W.mg_of X G a8) k8 b8
 have D_law_whole:=lU (zF (P:=l.prog) (w:=w) (base:=base) (ca:=λ _=>0) F9 z_isinstance z_int z_bool) (W.mg_of X G a9) k9 b9
 have D_law_same:=uP (P:=l.prog) (w:=w) (base:=base) (ca:=λ _=>0) F10 D_law_whole z_isinstance z_bool z_int z_str z_list z_tuple z_len z_zip (W.mg_of X G a10) k10 b10 12
 have D_law_unlike:=lU (xV (P:=l.prog) (w:=w) (base:=base) (ca:=λ _=>0) F11 z_range z_len) (W.mg_of X G a11) k11 b11
 have D_law_word:=lU (aaK (P:=l.prog) (w:=w) (base:=base) (ca:=λ _=>0) F12 D_law_next z_range) (W.mg_of X G a12) k12 b12
 have D_law_names:=lU (zG (P:=l.prog) (w:=w) (base:=base) (ca:=λ _=>0) F13 D_law_next D_law_word D_law_unlike z_len z_range) (W.mg_of X G a13) k13 b13
 have D_law_number:=lU (xW (P:=l.prog) (w:=w) (base:=base) (ca:=λ _=>0) F14 D_law_next) (W.mg_of X G a14) k14 b14
 have D_law_row:=lU (ack (P:=l.prog) (w:=w) (base:=base) (ca:=λ _=>0) F15 D_law_next z_range z_len) (W.mg_of X G a15) k15 b15
 have D_law_form:=lU (aaL (P:=l.prog) (w:=w) (base:=base) (ca:=λ _=>0) F16 ) (W.mg_of X G a16) k16 b16
 have D_law_any_deed:=lU (uQ (P:=l.prog) (w:=w) (base:=base) (ca:=λ _=>0) F17 D_law_next D_law_form D_law_number D_law_row z_len z_tuple) (W.mg_of X G a17) k17 b17
 have D_law_shown:=lU (zH (P:=l.prog) (w:=w) (base:=base) (ca:=λ _=>0) F18 z_isinstance z_list z_str) (W.mg_of X G a18) k18 b18
 exact am9 F19 D_law_src D_law_names D_law_next D_law_any_deed D_law_shown D_law_same D_shown_deed D_read_deed z_range z_tuple z_isinstance z_list
end Tx
open PySem PySem.W PyProof.Rows
namespace VS
open PySem PySem.Spec
theorem ahB {l:List DictEntry}{P:Params}{ks:List Str}(h:l.map He.keyOf=He.keysIn P ks):∀ e∈l,e.refKey=false/\∀ z,e.key.isStr z=true->z∈ks:=by
 induction l generalizing ks with
 | nil=>intro e he;cases he
 | cons e l ih =>
  cases ks with
  | nil=>cases h
  | cons k ks =>
   have h1:He.keyOf e::l.map He.keyOf=some (k,PyData.keyHash P k)::He.keysIn P ks:=h
   injection h1 with h2 h3
   intro e' he'
   rcases List.mem_cons.mp he' with rfl | he'
   ·have h2:(match e'.key with
     | .str x _=>some (x,e'.hash)
     | _=>none)=some (k,PyData.keyHash P k):=h2
    split at h2
    ·rename_i x t q
     have h4:=Option.some.inj h2
     obtain⟨h5,h6⟩:=Prod.mk.inj h4
     subst h5
     refine⟨by unfold DictEntry.refKey;rw[q],λ z hz=>?_⟩
     rw[q]at hz
     have:(x == z)=true:=hz
     rw[←eq_of_beq this]
     exact List.mem_cons_self
    ·cases h2
   ·obtain⟨a,b⟩:=ih h3 e' he'
    exact⟨a,λ z hz=>List.mem_cons_of_mem _ (b z hz)⟩
theorem lookup_none {rows:List (Str×Str)}{z:Str}(h:z∉rows.map Prod.fst):rows.lookup z=none:=by
 induction rows with
 | nil=>rfl
 | cons r rs ih =>
  obtain⟨k,v⟩:=r
  rw[List.map_cons,List.mem_cons]at h
  rw[List.lookup_cons]
  have:(z == k)=false:=beq_false_of_ne λ e=>h (.inl e)
  rw[this]
  exact ih λ q=>h (.inr q)
theorem ae7 {rows:List (Str×Str)}{z:Str}(h:z∈rows.map Prod.fst):∃ y,rows.lookup z=some y/\(z,y)∈rows:=by
 induction rows with
 | nil=>cases h
 | cons r rs ih =>
  obtain⟨k,v⟩:=r
  rw[List.lookup_cons]
  by_cases e:z=k
  ·subst e
   exact⟨v,by rw[beq_self_eq_true],List.mem_cons_self⟩
  ·rw[show(z == k)=false from beq_false_of_ne e]
   rw[List.map_cons,List.mem_cons]at h
   obtain⟨y,a,b⟩:=ih (h.resolve_left e)
   exact⟨y,a,List.mem_cons_of_mem _ b⟩
theorem akP {K:W.Frag}{w:World}{x:Str}{rows:List (Str×Str)}(h1:He.dicW K (He.ga K x)=some (He.keysIn w.params (rows.map Prod.fst)))(h2:tabX x rows K=true):KTab K w (He.ga K x) rows:=by
 refine⟨He.dicW_ok h1,λ z=>?_⟩
 have hval:∀ q∈rows,∃ t,W.nsIn K (He.ga K x) q.1=some (some (.str q.2 t)):=λ q hq=>by
  have:=List.all_eq_true.mp h2 q hq
  split at this
  ·rename_i y t e
   exact⟨t,by rw[e,of_decide_eq_true this]⟩
  ·cases this
 by_cases hz:z∈rows.map Prod.fst
 ·obtain⟨y,e,hm⟩:=ae7 hz
  obtain⟨t,e2⟩:=hval _ hm
  exact⟨_,e2,by rw[e];rfl,λ y' e'=>⟨_,rfl,by rw[e]at e';cases e';exact⟨t,rfl⟩⟩⟩
 ·refine⟨none,?_,by rw[lookup_none hz];rfl,λ y e=>by rw[lookup_none hz]at e;cases e⟩
  unfold He.dicW at h1
  unfold W.nsIn
  split at h1
  ·rename_i cc es nn sl q
   rw[q]
   split at h1
   ·have hk:=ahB (Option.some.inj h1)
    have hf:es.toList.find? (·.key.isStr z)=none:=List.find?_eq_none.mpr λ e he hs=>hz ((hk e he).2 z hs)
    have ha:es.toList.any (·.refKey)=false:=List.any_eq_false.mpr λ e he=>by rw[(hk e he).1];decide
    show(match es.toList.find? (·.key.isStr z) with
     | some e=>some (some e.val)
     | none=>if es.toList.any (·.refKey) then none else some none)=_
    rw[hf,ha]
    rfl
   ·cases h1
  ·cases h1
theorem ahC {K:W.Frag}{w:World}{h:Heap}{x:Str}{k y:Str}{rows:List (Str×Str)}(X:K.In h)(ct:∃ K1:W.Frag,K1.In h/\He.dicW K1 (He.ga K1 x)=some (He.keysIn w.params (((k,y)::rows).map Prod.fst))/\gaOk K1 x=true)(hg:W.nsIn K mainGlobals x=some (some (.ref (He.ga K x))))(h2:tabX x ((k,y)::rows) K=true):KTab K w (He.ga K x) ((k,y)::rows):=by
 obtain⟨K1,X1,h1,hk⟩:=ct
 have e1:W.nsIn K1 mainGlobals x=some (some (.ref (He.ga K1 x))):=by
  unfold gaOk at hk
  unfold He.ga
  split at hk
  ·rename_i a e
   rw[e]
  ·cases hk
 have ea:He.ga K x=He.ga K1 x:=by
  have:=aic X X1 hg e1
  injection this
 have hr:∃ u,W.nsIn K (He.ga K x) k=some (some u):=by
  have:=List.all_eq_true.mp h2 (k,y) List.mem_cons_self
  split at this
  ·rename_i y' t e
   exact⟨_,e⟩
  ·cases this
 obtain⟨u,hu⟩:=hr
 rw[←ea]at h1
 exact akP (afb X X1 hu h1) h2
end VS
namespace Tx
open PySem PySem.Spec PyProof.Rows L2 VS
theorem factsL {w:World}{K:W.Frag}{h:Heap}{mg:Str->Option Value}{fa:Addr}(X:K.In h)(G:h.Ns mainGlobals mg)(hfa:mg "law"=some (.ref fa)) (c:VS.SaysY faL fnL exL tsL w h K):∃ fd:FuncData,(∀ (s:Shared) (v:Value),BindsTo s fd ⟨[v],[]⟩ [("_law_script",v)])/\∀ base:Heap,K.In base->base.Ns mainGlobals mg->FnOk PySem.Challenge.rw_forsworn_k49_deeds_written.prog w K mg base (L2.CX PySem.Challenge.rw_forsworn_k49_deeds_written.prog w) 15 fa fd ["_law_script"] (VSp K (λ _=>0) [true] Lw.jd):=by
 obtain⟨c,ct⟩:=c
 obtain⟨c,cx⟩:=VS.abA c
 obtain⟨_,F0⟩:=c.def_ 0 (d:=e0) rfl
 obtain⟨_,_,_,_,_,_,_,_,_,l0,c0,k0⟩:=VS.dM F0
 obtain⟨_,F1⟩:=c.def_ 1 (d:=e1) rfl
 obtain⟨_,_,_,_,_,_,_,_,_,l1,c1,k1⟩:=VS.dM F1
 obtain⟨_,F2⟩:=c.def_ 2 (d:=e2) rfl
 obtain⟨_,_,_,_,_,_,_,_,_,l2,c2,k2⟩:=VS.dM F2
 obtain⟨_,F3⟩:=c.def_ 3 (d:=e3) rfl
 obtain⟨_,_,_,_,_,_,_,_,_,l3,c3,k3⟩:=VS.dM F3
 obtain⟨_,F4⟩:=c.def_ 4 (d:=e4) rfl
 obtain⟨_,_,_,_,_,_,_,_,_,l4,c4,k4⟩:=VS.dM F4
 obtain⟨_,F5⟩:=c.def_ 5 (d:=e5) rfl
 obtain⟨_,_,_,_,_,_,_,_,_,l5,c5,k5⟩:=VS.dM F5
 obtain⟨_,F6⟩:=c.def_ 6 (d:=e6) rfl
 obtain⟨_,_,_,_,_,_,_,_,_,l6,c6,k6⟩:=VS.dM F6
 obtain⟨_,F7⟩:=c.def_ 7 (d:=e7) rfl
 obtain⟨_,_,_,_,_,_,_,_,_,l7,c7,k7⟩:=VS.dM F7
 obtain⟨_,F8⟩:=c.def_ 8 (d:=e8) rfl
 obtain⟨_,_,_,_,_,_,_,_,_,l8,c8,k8⟩:=VS.dM F8
 obtain⟨_,F9⟩:=c.def_ 9 (d:=e9) rfl
 obtain⟨_,_,_,_,_,_,_,_,_,l9,c9,k9⟩:=VS.dM F9
 obtain⟨_,F10⟩:=c.def_ 10 (d:=e10) rfl
 obtain⟨_,_,_,_,_,_,_,_,_,l10,c10,k10⟩:=VS.dM F10
 obtain⟨_,F11⟩:=c.def_ 11 (d:=e11) rfl
 obtain⟨_,_,_,_,_,_,_,_,_,l11,c11,k11⟩:=VS.dM F11
 obtain⟨_,F12⟩:=c.def_ 12 (d:=e12) rfl
 obtain⟨_,_,_,_,_,_,_,_,_,l12,c12,k12⟩:=VS.dM F12
 obtain⟨_,F13⟩:=c.def_ 13 (d:=e13) rfl
 obtain⟨_,_,_,_,_,_,_,_,_,l13,c13,k13⟩:=VS.dM F13
 obtain⟨_,F14⟩:=c.def_ 14 (d:=e14) rfl
 obtain⟨_,_,_,_,_,_,_,_,_,l14,c14,k14⟩:=VS.dM F14
 obtain⟨_,F15⟩:=c.def_ 15 (d:=e15) rfl
 obtain⟨_,_,_,_,_,_,_,_,_,l15,c15,k15⟩:=VS.dM F15
 obtain⟨_,F16⟩:=c.def_ 16 (d:=e16) rfl
 obtain⟨_,_,_,_,_,_,_,_,_,l16,c16,k16⟩:=VS.dM F16
 obtain⟨_,F17⟩:=c.def_ 17 (d:=e17) rfl
 obtain⟨_,_,_,_,_,_,_,_,_,l17,c17,k17⟩:=VS.dM F17
 obtain⟨_,F18⟩:=c.def_ 18 (d:=e18) rfl
 obtain⟨_,_,_,_,_,_,_,_,_,l18,c18,k18⟩:=VS.dM F18
 obtain⟨_,F19⟩:=c.def_ 19 (d:=e19) rfl
 obtain⟨_,_,_,_,_,_,_,_,_,l19,c19,k19⟩:=VS.dM F19
 obtain⟨_,wy_LETTERS⟩:=VS.acN (c.fact 29 (f:=.str "LETTERS" "abcdefghijklmnopqrstuvwxyz") rfl)
 obtain⟨_,wy_FIGURES⟩:=VS.acN (c.fact 30 (f:=.str "FIGURES" "0123456789") rfl)
 obtain⟨_,_,_,_,_,_,w_CASES⟩:=VS.ae8 (cx 0 (VS.tup3X "CASES" "claim" "wergild" "accuse") rfl)
 exact ahI (l:=PySem.Challenge.rw_forsworn_k49_deeds_written) X G hfa (VS.cM (c.fact 0 (f:=.glo "is_name") rfl)) l0 c0 k0 (VS.cM (c.fact 1 (f:=.glo "shown_deed") rfl)) l1 c1 k1 (VS.cM (c.fact 2 (f:=.glo "read_number") rfl)) l2 c2 k2 (VS.cM (c.fact 3 (f:=.glo "read_name") rfl)) l3 c3 k3 (VS.cM (c.fact 4 (f:=.glo "read_words") rfl)) l4 c4 k4 (VS.cM (c.fact 5 (f:=.glo "read_sides") rfl)) l5 c5 k5 (VS.cM (c.fact 6 (f:=.glo "read_deed") rfl)) l6 c6 k6 (VS.cM (c.fact 7 (f:=.glo "_law_src") rfl)) l7 c7 k7 (VS.cM (c.fact 8 (f:=.glo "_law_next") rfl)) l8 c8 k8 (VS.cM (c.fact 9 (f:=.glo "_law_whole") rfl)) l9 c9 k9 (VS.cM (c.fact 10 (f:=.glo "_law_same") rfl)) l10 c10 k10 (VS.cM (c.fact 11 (f:=.glo "_law_unlike") rfl)) l11 c11 k11 (VS.cM (c.fact 12 (f:=.glo "_law_word") rfl)) l12 c12 k12 (VS.cM (c.fact 13 (f:=.glo "_law_names") rfl)) l13 c13 k13 (VS.cM (c.fact 14 (f:=.glo "_law_number") rfl)) l14 c14 k14 (VS.cM (c.fact 15 (f:=.glo "_law_row") rfl)) l15 c15 k15 (VS.cM (c.fact 16 (f:=.glo "_law_form") rfl)) l16 c16 k16 (VS.cM (c.fact 17 (f:=.glo "_law_any_deed") rfl)) l17 c17 k17 (VS.cM (c.fact 18 (f:=.glo "_law_shown") rfl)) l18 c18 k18 (VS.cM (c.fact 19 (f:=.glo "law") rfl)) l19 c19 k19 (VS.jD (c.fact 20 (f:=.free "len") rfl)) (VS.jD (c.fact 21 (f:=.free "str") rfl)) (VS.jD (c.fact 22 (f:=.free "int") rfl)) (VS.jD (c.fact 23 (f:=.free "zip") rfl)) (VS.jD (c.fact 24 (f:=.free "tuple") rfl)) (VS.jD (c.fact 25 (f:=.free "list") rfl)) (VS.jD (c.fact 26 (f:=.free "isinstance") rfl)) (VS.jD (c.fact 27 (f:=.free "bool") rfl)) (VS.jD (c.fact 28 (f:=.free "range") rfl)) wy_LETTERS (VS.cM (c.fact 31 (f:=.glo "CASES") rfl)) w_CASES wy_FIGURES (VS.cM (c.fact 32 (f:=.glo "FORMS") rfl)) (VS.ahC X (VS.aib ct 0 tb0 rfl) (VS.cM (c.fact 32 (f:=.glo "FORMS") rfl)) (cx 1 (VS.tabX tb0.1 tb0.2) rfl))
end Tx
set_option maxHeartbeats 0 in
theorem PySem.Challenge.cw_forsworn_k49_deeds_written_holds : PySem.Challenge.rw_forsworn_k49_deeds_written.Holds := by
 exact Tx.endL Lw.jd Lw.ahA (λ _ _ _ _ _ X G hfa c=>Tx.factsL X G hfa c)
