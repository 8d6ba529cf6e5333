import PyProof.Rows.All
import Wide.All
import OpenK.AllK
import Wide.FinOn
import HandS.ForMost
import HandS.ForSpec
import HandS.Flow
import HandS.IsInst
import HandS.Style
import HandS.Deep
import HandS.Conv
import HandS.Dict
import HandS.DictTup
import HandS.ExcIs
import HandS.ExcOwn
import HandS.Flt
import HandS.List
import HandS.More
import HandS.NoneIn
import HandS.RaiseMore
import HandS.ReplaceLit
import HandS.RevRange
import HandS.SetFor
import HandS.SortKw
import HandS.Strs
import HandS.Text
import HandS.TryMany
import HandS.TryOnly
import HandS.TupAny
import HandS.TupLen
import HandS.Zip
import KE.DataMinMax
import KE.GoesEnum
import KE.GoesMore
import KE.GoesRev
import KE.GoesZip
import KE.IntTextLaws
import KE.SortData
import KE.SortKeyHeap
import PyProof.AutoSeq1
import PyProof.Conv_int_bool
import PyProof.ListRange
import PyProof.Rows.StrStrike
import PyProof.Rows.TupDisplay
import PyProof.SeqRoads2
import KE.KStateDown
import HandS.Defaults
import HandS.Head0
import HandS.Head1
import HandS.Head2
import HandS.HeadEnd
import HandS.HeadHook1
import HandS.HeadHook2
import HandS.HeadHook3
import Wide.Once
import PySem.Challenge.RW_forsworn_k50_lines_read
set_option Elab.async false
set_option linter.all false
set_option maxRecDepth 100000
set_option maxHeartbeats 4000000
abbrev Q0:List Bool:=[true,false]
abbrev Q1:List Bool:=[false,false]
abbrev Q2:List Bool:=[true,true]
abbrev Q3:List PySem.Str:=["_law_src_here","_law_base"]
abbrev Q4:List PySem.Str:=["_law_src_here","_law_names_here"]
abbrev Q5:List PySem.Str:=["_law_src_here","_law_many"]
abbrev Q6:List PySem.Str:=["_law_found_here","_law_due"]
namespace VS
open PySem PySem.Spec
abbrev ExF:Type:=W.Frag->Bool
def obsX (fa:List He.Fa)(fn:List He.DefD)(ex:List ExF)(K:W.Frag):He.AlD:=(((fa.all λ f=>f.ok K)&&fn.all λ d=>d.ok K)&&ex.all λ e=>e K,fn.map λ d=>He.fnW K d.at_)
def SaysX (fa:List He.Fa)(fn:List He.DefD)(ex:List ExF)(K:W.Frag):Prop:=obsX fa fn ex K=He.valD fn
def obsXG (n:Nat)(fa:List He.Fa)(fn:List He.DefD)(ex:List ExF)(g:Addr->Option Obj):He.AlD:=obsX fa fn ex (He.frG g (He.asD g n))
theorem acw {fa:List He.Fa}{fn:List He.DefD}{ex:List ExF}{K:W.Frag}(c:SaysX fa fn ex K):He.SaysD fa fn K/\∀ (i:Nat) (e:ExF),ex[i]?=some e->e K=true:=by
 have c1:=He.ba (show(((fa.all λ f=>f.ok K)&&fn.all λ d=>d.ok K)&&ex.all λ e=>e K)=true from congrArg (λ z:He.AlD=>z.1) c)
 have c2:fn.map (λ d=>He.fnW K d.at_)=fn.map He.DefD.val:=congrArg (λ z:He.AlD=>z.2) c
 refine⟨?_,λ i e h=>List.all_eq_true.mp c1.2 e (List.mem_of_getElem? h)⟩
 show((fa.all λ f=>f.ok K)&&fn.all λ d=>d.ok K,fn.map λ d=>He.fnW K d.at_)=(true,fn.map He.DefD.val)
 rw[c1.1,c2]
def tup3X (x a b c:Str):ExF:=λ K=>match K.lookup (He.ga K x) with
 | some ⟨.type z,_,.seq its _,_⟩=>decide (z="tuple")&&(match its.toList with
  | [.str p _,.str q _,.str r _]=>decide (p=a)&&(decide (q=b)&&decide (r=c))
  | _=>false)
 | _=>false
theorem af1 {K:W.Frag}{x a b c:Str}(h:tup3X x a b c K=true):∃ (od:Option Addr) (u0 u1 u2:Nat) (n:Nat) (sl:Array (Option Value)),K.lookup (He.ga K x)=some ⟨.type "tuple",od,.seq #[.str a u0,.str b u1,.str c u2] n,sl⟩:=by
 unfold tup3X at h
 cases q:K.lookup (He.ga K x) with
 | none=>rw[q]at h;cases h
 | some o =>
  obtain⟨oc,od,dt,osl⟩:=o
  rw[q]at h
  cases oc with
  | type z =>
   cases dt with
   | seq its n =>
    obtain⟨h1,h2⟩:=He.ba h
    have h1:z="tuple":=of_decide_eq_true h1
    obtain⟨l⟩:=its
    match l,h2 with
    | [.str p u0,.str q u1,.str r u2],h2 =>
     obtain⟨h3,h4⟩:=He.ba h2
     obtain⟨h5,h6⟩:=He.ba h4
     have h3:p=a:=of_decide_eq_true h3
     have h5:q=b:=of_decide_eq_true h5
     have h6:r=c:=of_decide_eq_true h6
     subst h1 h3 h5 h6
     exact⟨od,u0,u1,u2,n,osl,rfl⟩
   | _=>cases h
  | _=>cases dt<;>cases h
abbrev xC (a:Str):ExF:=λ K=>W.isClsIn K (He.ga K a)
abbrev xD (a:Str):ExF:=λ K=>W.hasDictIn K (He.ga K a)
abbrev xS (a b:Str)(t:Bool):ExF:=λ K=>decide (W.subIn K (.ref (He.ga K a)) (.ref (He.ga K b))=some t)
theorem ak9 {K:W.Frag}{a b:Str}{t:Bool}(h:xS a b t K=true):W.subIn K (.ref (He.ga K a)) (.ref (He.ga K b))=some t:=of_decide_eq_true h
abbrev xT (a:Str)(b:String):ExF:=λ K=>decide (W.subIn K (.ref (He.ga K a)) (.type b)=some true)
theorem anw {K:W.Frag}{a:Str}{b:String}(h:xT a b K=true):W.subIn K (.ref (He.ga K a)) (.type b)=some true:=of_decide_eq_true h
abbrev xM (a:Str)(b:String):ExF:=λ K=>decide (W.mroIn K (He.ga K a) (.type b)=some true)
theorem anx {K:W.Frag}{a:Str}{b:String}(h:xM a b K=true):W.mroIn K (He.ga K a) (.type b)=some true:=of_decide_eq_true h
abbrev xF (a f:Str)(v:Option (Option Value)):ExF:=λ K=>He.eqO (W.findIn K (.ref (He.ga K a)) f) v
theorem aiP {K:W.Frag}{a f:Str}{v:Option (Option Value)}(h:xF a f v K=true):W.findIn K (.ref (He.ga K a)) f=v:=He.eqO_ok h
section
variable {n:Nat}{fa fb:List He.Fa}{fn gn:List He.DefD}{ex ey:List ExF}{K:W.Frag}
theorem adf (h1:obsX fa fn ex K=He.valD fn)(h2:obsX fb gn ey K=He.valD gn):obsX (fa++fb) (fn++gn) (ex++ey) K=He.valD (fn++gn):=by
 have a1:(((fa.all λ f=>f.ok K)&&fn.all λ d=>d.ok K)&&ex.all λ e=>e K)=true:=congrArg (λ z:He.AlD=>z.1) h1
 have a2:fn.map (λ d=>He.fnW K d.at_)=fn.map He.DefD.val:=congrArg (λ z:He.AlD=>z.2) h1
 have b1:(((fb.all λ f=>f.ok K)&&gn.all λ d=>d.ok K)&&ey.all λ e=>e K)=true:=congrArg (λ z:He.AlD=>z.1) h2
 have b2:gn.map (λ d=>He.fnW K d.at_)=gn.map He.DefD.val:=congrArg (λ z:He.AlD=>z.2) h2
 simp only[Bool.and_eq_true]at a1 b1
 show((((fa++fb).all λ f=>f.ok K)&&(fn++gn).all λ d=>d.ok K)&&(ex++ey).all λ e=>e K,(fn++gn).map λ d=>He.fnW K d.at_)=(true,(fn++gn).map He.DefD.val)
 rw[List.map_append,List.map_append,a2,b2,List.all_append,List.all_append,List.all_append,a1.1.1,a1.1.2,a1.2,b1.1.1,b1.1.2,b1.2]
 rfl
theorem abF {E:Option W.SharedT}(h1:E.map (λ s=>obsXG n fa fn ex (HandSHeadRun.getT s))=some (He.valD fn))(h2:E.map (λ s=>obsXG n fb gn ey (HandSHeadRun.getT s))=some (He.valD gn)) :
  E.map (λ s=>obsXG n (fa++fb) (fn++gn) (ex++ey) (HandSHeadRun.getT s))=some (He.valD (fn++gn)):=by
 cases E with
 | none=>cases h1
 | some s=>exact congrArg some (adf (Option.some.inj h1) (Option.some.inj h2))
theorem af2 {α β γ:Type}{E:Option W.SharedT}{A:W.SharedT->α}{B:W.SharedT->β}{C:W.SharedT->γ}{a:α}{b:β}{d:γ}(h1:E.map A=some a)(h2:E.map B=some b)(h3:E.map C=some d):E.map (λ s=>(A s,B s,C s))=some (a,b,d):=by
 cases E with
 | none=>cases h1
 | some s =>
  have e1:=Option.some.inj h1
  have e2:=Option.some.inj h2
  have e3:=Option.some.inj h3
  show some (A s,B s,C s)=_
  rw[e1,e2,e3]
end
abbrev Tb:Type:=Str×List (Str×Str)
abbrev AlY:Type:=He.AlD×(List (Option (List (Option (Str×Int))))×Bool)
def gaOk (K:W.Frag)(x:Str):Bool:=match W.nsIn K mainGlobals x with
 | some (some (.ref _))=>true
 | _=>false
def tabsO (ts:List Tb)(K:W.Frag):List (Option (List (Option (Str×Int))))×Bool:=(ts.map λ t=>He.dicW K (He.ga K t.1),ts.all λ t=>gaOk K t.1)
def tabsV (ts:List Tb)(w:World):List (Option (List (Option (Str×Int))))×Bool:=(ts.map λ t=>some (He.keysIn w.params (t.2.map Prod.fst)),true)
def tabsG (ts:List Tb)(g:Addr->Option Obj):List (Option (List (Option (Str×Int))))×Bool:=tabsO ts (He.frG g (He.asD g 1))
def TabsIn (ts:List Tb)(w:World)(h:Heap):Prop:=∃ K:W.Frag,K.In h/\tabsO ts K=tabsV ts w
def SaysY (fa:List He.Fa)(fn:List He.DefD)(ex:List ExF)(ts:List Tb)(w:World)(h:Heap)(K:W.Frag):Prop:=SaysX fa fn ex K/\TabsIn ts w h
def obsYG (n:Nat)(fa:List He.Fa)(fn:List He.DefD)(ex:List ExF)(ts:List Tb)(g:Addr->Option Obj):AlY:=(obsXG n fa fn ex g,tabsG ts g)
def hookY (n:Nat)(fa:List He.Fa)(fn:List He.DefD)(ex:List ExF)(ts:List Tb):W.Hook where
 α:=AlY
 obs:=λ s=>obsYG n fa fn ex ts s.heap.get?
 val:=λ w=>(He.valD fn,tabsV ts w)
 says:=λ w h=>∃ K:W.Frag,K.In h/\SaysY fa fn ex ts w h K
 of:=λ _ _ e=>⟨_,He.frG_in,congrArg (λ z:AlY=>z.1) e,_,He.frG_in,congrArg (λ z:AlY=>z.2) e⟩
 keeps:=λ _ _ _ ⟨K,hK,c,K1,hK1,c1⟩ k=>⟨K,W.Frag.In.keeps hK k,c,K1,W.Frag.In.keeps hK1 k,c1⟩
theorem af3 {n:Nat}{fa:List He.Fa}{fn:List He.DefD}{ex:List ExF}{ts:List Tb}{g:Addr->Option Obj}{s:Shared}(h:∀ a,g a=s.heap.get? a):obsYG n fa fn ex ts g=(hookY n fa fn ex ts).obs s:=by
 have e:g=s.heap.get?:=funext h
 rw[e]<;>rfl
def tabX (x:Str)(rows:List (Str×Str)):ExF:=λ K=>rows.all λ q=>match W.nsIn K (He.ga K x) q.1 with
 | some (some (.str y _))=>decide (y=q.2)
 | _=>false
theorem aiQ {ts:List Tb}{w:World}{h:Heap}(c:TabsIn ts w h)(i:Nat)(t:Tb)(ht:ts[i]?=some t):∃ K:W.Frag,K.In h/\He.dicW K (He.ga K t.1)=some (He.keysIn w.params (t.2.map Prod.fst))/\gaOk K t.1=true:=by
 obtain⟨K,hK,c⟩:=c
 have c1:=congrArg (λ z:List (Option (List (Option (Str×Int))))×Bool=>z.1) c
 have c2:=congrArg (λ z:List (Option (List (Option (Str×Int))))×Bool=>z.2) c
 refine⟨K,hK,?_,List.all_eq_true.mp c2 t (List.mem_of_getElem? ht)⟩
 have e:(ts.map λ t=>He.dicW K (He.ga K t.1))[i]?=(ts.map λ t=>some (He.keysIn w.params (t.2.map Prod.fst)))[i]?:=congrArg (·[i]?) c1
 rw[List.getElem?_map,List.getElem?_map,ht]at e
 exact Option.some.inj e
theorem aiR {K K1:W.Frag}{h:Heap}(X:K.In h)(X1:K1.In h){a:Addr}{x:Str}{v v1:Value}(e:W.nsIn K a x=some (some v))(e1:W.nsIn K1 a x=some (some v1)):v=v1:=by
 cases q:K.lookup a with
 | none =>
  unfold W.nsIn at e
  rw[q]at e
  cases e
 | some o =>
  cases q1:K1.lookup a with
  | none =>
   unfold W.nsIn at e1
   rw[q1]at e1
   cases e1
  | some o1 =>
   have z:=X _ _ q
   rw[X1 _ _ q1]at z
   cases z
   unfold W.nsIn at e e1
   rw[q]at e
   rw[q1]at e1
   rw[e]at e1
   cases e1
   rfl
theorem af4 {K K1:W.Frag}{h:Heap}(X:K.In h)(X1:K1.In h){a:Addr}{x:Str}{u:Value}{v:List (Option (Str×Int))}(e:W.nsIn K a x=some (some u))(e1:He.dicW K1 a=some v):He.dicW K a=some v:=by
 cases q:K.lookup a with
 | none =>
  unfold W.nsIn at e
  rw[q]at e
  cases e
 | some o =>
  cases q1:K1.lookup a with
  | none =>
   unfold He.dicW at e1
   rw[q1]at e1
   cases e1
  | some o1 =>
   have z:=X _ _ q
   rw[X1 _ _ q1]at z
   cases z
   unfold He.dicW at e1 ⊢
   rw[q1]at e1
   rw[q]
   exact e1
theorem adg {α β γ:Type}{E:Option γ}{A:γ->α}{B:γ->β}{a:α}{b:β}(h1:E.map A=some a)(h2:E.map B=some b):E.map (λ s=>(A s,B s))=some (a,b):=by
 cases E with
 | none=>cases h1
 | some s =>
  have e1:=Option.some.inj h1
  have e2:=Option.some.inj h2
  show some (A s,B s)=_
  rw[e1,e2]
end VS
namespace Tx
open PySem PySem.Spec PyProof.Rows L2
def topS (i:Nat):Stmt:=PySem.Challenge.pw_forsworn_k50_lines_read.main.body.getD i (.Pass ⟨0,0,0,0⟩)
abbrev iK:Stmt:=topS 16
abbrev gJ:Stmt:=topS 17
abbrev fB:Stmt:=topS 21
abbrev dD:Stmt:=topS 20
abbrev eE:Stmt:=topS 22
abbrev eG:Stmt:=topS 27
abbrev gK:Stmt:=topS 25
abbrev bA:Stmt:=topS 28
abbrev bT:Stmt:=topS 29
abbrev bU:Stmt:=topS 30
abbrev bj:Stmt:=topS 31
abbrev fD:Stmt:=topS 32
abbrev iQ:Stmt:=topS 6
abbrev eO:Stmt:=topS 11
abbrev bZ:Stmt:=topS 13
abbrev cI:Stmt:=topS 10
abbrev dH:Stmt:=topS 12
abbrev eQ:Stmt:=topS 14
abbrev eU:Stmt:=topS 34
abbrev dI:Stmt:=topS 23
abbrev gU:Stmt:=topS 24
abbrev bY:Stmt:=topS 26
abbrev dJ:Stmt:=topS 33
abbrev eV:Stmt:=topS 18
abbrev gM:Stmt:=topS 19
abbrev sX:Stmt:=topS 35
def e0:He.DefD:=⟨("_law_src",none),"_law_src","_law_src",defArgs iK,defBody iK,defScope iK,[],[]⟩
def e1:He.DefD:=⟨("_law_next",none),"_law_next","_law_next",defArgs gJ,defBody gJ,defScope gJ,[],[]⟩
def e2:He.DefD:=⟨("_law_word",none),"_law_word","_law_word",defArgs fB,defBody fB,defScope fB,[],[]⟩
def e3:He.DefD:=⟨("_law_unlike",none),"_law_unlike","_law_unlike",defArgs dD,defBody dD,defScope dD,[],[]⟩
def e4:He.DefD:=⟨("_law_names",none),"_law_names","_law_names",defArgs eE,defBody eE,defScope eE,[],[]⟩
def e5:He.DefD:=⟨("_law_shown",none),"_law_shown","_law_shown",defArgs eG,defBody eG,defScope eG,[],[]⟩
def e6:He.DefD:=⟨("_law_form",none),"_law_form","_law_form",defArgs gK,defBody gK,defScope gK,[],[]⟩
def e7:He.DefD:=⟨("_law_read_number",none),"_law_read_number","_law_read_number",defArgs bA,defBody bA,defScope bA,[],[]⟩
def e8:He.DefD:=⟨("_law_read_name",none),"_law_read_name","_law_read_name",defArgs bT,defBody bT,defScope bT,[],[]⟩
def e9:He.DefD:=⟨("_law_read_part",none),"_law_read_part","_law_read_part",defArgs bU,defBody bU,defScope bU,[],[]⟩
def e10:He.DefD:=⟨("_law_read_sides",none),"_law_read_sides","_law_read_sides",defArgs bj,defBody bj,defScope bj,[],[]⟩
def e11:He.DefD:=⟨("_law_read",none),"_law_read","_law_read",defArgs fD,defBody fD,defScope fD,[],[]⟩
def e12:He.DefD:=⟨("is_name",none),"is_name","is_name",defArgs iQ,defBody iQ,defScope iQ,[],[]⟩
def e13:He.DefD:=⟨("read_name",none),"read_name","read_name",defArgs eO,defBody eO,defScope eO,[],[]⟩
def e14:He.DefD:=⟨("read_sides",none),"read_sides","read_sides",defArgs bZ,defBody bZ,defScope bZ,[],[]⟩
def e15:He.DefD:=⟨("read_number",none),"read_number","read_number",defArgs cI,defBody cI,defScope cI,[],[]⟩
def e16:He.DefD:=⟨("read_words",none),"read_words","read_words",defArgs dH,defBody dH,defScope dH,[],[]⟩
def e17:He.DefD:=⟨("read_deed",none),"read_deed","read_deed",defArgs eQ,defBody eQ,defScope eQ,[],[]⟩
def e18:He.DefD:=⟨("_law_found",none),"_law_found","_law_found",defArgs eU,defBody eU,defScope eU,[],[]⟩
def e19:He.DefD:=⟨("_law_number",none),"_law_number","_law_number",defArgs dI,defBody dI,defScope dI,[],[]⟩
def e20:He.DefD:=⟨("_law_row",none),"_law_row","_law_row",defArgs gU,defBody gU,defScope gU,[],[]⟩
def e21:He.DefD:=⟨("_law_any_deed",none),"_law_any_deed","_law_any_deed",defArgs bY,defBody bY,defScope bY,[],[]⟩
def e22:He.DefD:=⟨("_law_spoilt",none),"_law_spoilt","_law_spoilt",defArgs dJ,defBody dJ,defScope dJ,[],[]⟩
def e23:He.DefD:=⟨("_law_whole",none),"_law_whole","_law_whole",defArgs eV,defBody eV,defScope eV,[],[]⟩
def e24:He.DefD:=⟨("_law_same",none),"_law_same","_law_same",defArgs gM,defBody gM,defScope gM,[],[]⟩
def e25:He.DefD:=⟨("law",none),"law","law",defArgs sX,defBody sX,defScope sX,[],[]⟩
def tb0:VS.Tb:=("FORMS",[("come","abb"),("rise","abb"),("die","aba"),("penance","a"),("bring","ab"),("give","baab"),("pay","aabb"),("claim","abbb"),("wergild","aabbb"),("accuse","babb")])
def tsL:List VS.Tb:=[tb0]
def fa0:List He.Fa:=[.glo "MootError",.glo "NoDeed",.keep "NoDeed",.glo "_law_src",.glo "_law_next",.glo "_law_word",.glo "_law_unlike",.glo "_law_names",.glo "_law_shown",.glo "_law_form",.glo "_law_read_number",.glo "_law_read_name",.glo "_law_read_part",.glo "_law_read_sides",.glo "_law_read",.glo "is_name",.glo "read_name",.glo "read_sides",.glo "read_number",.glo "read_words",.glo "read_deed",.glo "_law_found",.glo "_law_number",.glo "_law_row",.glo "_law_any_deed",.glo "_law_spoilt",.glo "_law_whole",.glo "_law_same",.glo "law",.free "list"]
def fa1:List He.Fa:=[.free "len",.free "range",.free "isinstance",.free "str",.free "int",.free "zip",.free "tuple",.free "ValueError",.free "bool",.str "LETTERS" "abcdefghijklmnopqrstuvwxyz",.str "FIGURES" "0123456789",.exc "MootError",.exc "NoDeed",.glo "FORMS",.glo "CASES"]
def fn0:List He.DefD:=[e0,e1,e2,e3,e4,e5,e6,e7,e8,e9,e10,e11,e12,e13,e14,e15,e16,e17,e18,e19,e20,e21,e22,e23,e24,e25]
def nm0:List PySem.Str:=["CASES","MootError","NoDeed","LETTERS","is_name","FIGURES","FORMS","read_number","read_name","read_words","read_sides","read_deed","_law_src","_law_next","_law_whole","_law_same","_law_unlike","_law_word","_law_names","_law_number","_law_row","_law_form","_law_any_deed","_law_shown","_law_read_number","_law_read_name","_law_read_part","_law_read_sides","_law_read","_law_spoilt"]
def nm1:List PySem.Str:=["_law_found"]
def ala:List He.Fa:=fa0
def af5:List He.DefD:=fn0
def alb:List VS.ExF:=[VS.xC "MootError",VS.xC "NoDeed",VS.xS "NoDeed" "MootError" true,VS.xS "NoDeed" "NoDeed" true,VS.tup3X "CASES" "claim" "wergild" "accuse"]
def alc:List He.Fa:=fa1
def af6:List He.DefD:=[]
def ald:List VS.ExF:=[VS.xF "NoDeed" "__getattribute__" (some (some (.builtin "BaseException.__getattribute__"))),VS.xF "NoDeed" "__getattr__" (some none),VS.xF "NoDeed" "__class__" (some (some (.builtin "object.__class__"))),VS.xD "NoDeed",VS.xM "NoDeed" "object"]
def ale:List He.Fa:=[]
def af7:List He.DefD:=[]
def alf:List VS.ExF:=[VS.xT "NoDeed" "ValueError",λ K=>He.eqO (W.specialIn K (.builtin "object.__class__") "__get__") (some (some (.builtin "getset_descriptor.__get__"))),λ K=>decide (W.takesIn K (.builtin "object.__class__")=some true),VS.tabX tb0.1 tb0.2]
def faL:List He.Fa:=((ala++alc)++ale)
def fnL:List He.DefD:=((af5++af6)++af7)
def exL:List VS.ExF:=((alb++ald)++alf)
def nmL:List PySem.Str:=nm0++nm1
abbrev rwL:W.OpenRow:=W.OpenLaw.row PySem.Challenge.rw_forsworn_k50_lines_read
abbrev hkL:W.Hook:=VS.hookY 4 faL fnL exL tsL
def obL (s:W.SharedT):VS.AlY:=VS.obsYG 4 faL fnL exL tsL (HandSHeadRun.getT s)
theorem alg (z:W.SharedT):obL z=hkL.obs z.abs:=VS.af3 (HandSHeadRun.getT_eq z)
section
open PySem PySem.W PySem.Calls PyProof.Rows HandSHeadRun
theorem runAF (w:World)(os:OsState):(endF (stepQ (denQ tabQ) rwL.prog (w.withFollow "special-get-raises" false)) 16000 rwL.prog (w.withFollow "special-get-raises" false) os).map (λ s=>looksF rwL.prog (boot_heap (w.withFollow "special-get-raises" false).params) s.abs)=some true:=by kernel_rfl
theorem runAT (w:World)(os:OsState):(endF (stepQ (denQ tabQ) rwL.prog (w.withFollow "special-get-raises" true)) 16000 rwL.prog (w.withFollow "special-get-raises" true) os).map (λ s=>looksF rwL.prog (boot_heap (w.withFollow "special-get-raises" true).params) s.abs)=some true:=by kernel_rfl
theorem runA (w:World)(os:OsState):(endF (stepQ (denQ tabQ) rwL.prog w) 16000 rwL.prog w os).map (λ s=>looksF rwL.prog (boot_heap w.params) s.abs)=some true:=W.byRow2 "special-get-raises" (P:=λ w=>(endF (stepQ (denQ tabQ) rwL.prog w) 16000 rwL.prog w os).map (λ s=>looksF rwL.prog (boot_heap w.params) s.abs)=some true) (λ w=>runAF w os) (λ w=>runAT w os) w
theorem runBF (w:World)(os:OsState):(endF (stepQ (denQ tabQ) rwL.prog (w.withFollow "special-get-raises" false)) 16000 rwL.prog (w.withFollow "special-get-raises" false) os).map (λ s=>seenQ (W.view rwL.prog [35]) nmL (importedModules rwL.prog.main.body) (λ s=>xlAt (W.view rwL.prog [35]) [] s&&recOk rwL.toRowW.records s) s.abs)=some (openGood (W.view rwL.prog [35]) nmL):=by kernel_rfl
theorem runBT (w:World)(os:OsState):(endF (stepQ (denQ tabQ) rwL.prog (w.withFollow "special-get-raises" true)) 16000 rwL.prog (w.withFollow "special-get-raises" true) os).map (λ s=>seenQ (W.view rwL.prog [35]) nmL (importedModules rwL.prog.main.body) (λ s=>xlAt (W.view rwL.prog [35]) [] s&&recOk rwL.toRowW.records s) s.abs)=some (openGood (W.view rwL.prog [35]) nmL):=by kernel_rfl
theorem runB (w:World)(os:OsState):(endF (stepQ (denQ tabQ) rwL.prog w) 16000 rwL.prog w os).map (λ s=>seenQ (W.view rwL.prog [35]) nmL (importedModules rwL.prog.main.body) (λ s=>xlAt (W.view rwL.prog [35]) [] s&&recOk rwL.toRowW.records s) s.abs)=some (openGood (W.view rwL.prog [35]) nmL):=W.byRow2 "special-get-raises" (P:=λ w=>(endF (stepQ (denQ tabQ) rwL.prog w) 16000 rwL.prog w os).map (λ s=>seenQ (W.view rwL.prog [35]) nmL (importedModules rwL.prog.main.body) (λ s=>xlAt (W.view rwL.prog [35]) [] s&&recOk rwL.toRowW.records s) s.abs)=some (openGood (W.view rwL.prog [35]) nmL)) (λ w=>runBF w os) (λ w=>runBT w os) w
theorem runC0F (w:World)(os:OsState):(endF (stepQ (denQ tabQ) rwL.prog (w.withFollow "special-get-raises" false)) 16000 rwL.prog (w.withFollow "special-get-raises" false) os).map (λ s=>VS.obsXG 4 ala af5 alb (getT s))=some (He.valD af5):=by kernel_rfl
theorem runC0T (w:World)(os:OsState):(endF (stepQ (denQ tabQ) rwL.prog (w.withFollow "special-get-raises" true)) 16000 rwL.prog (w.withFollow "special-get-raises" true) os).map (λ s=>VS.obsXG 4 ala af5 alb (getT s))=some (He.valD af5):=by kernel_rfl
theorem anz (w:World)(os:OsState):(endF (stepQ (denQ tabQ) rwL.prog w) 16000 rwL.prog w os).map (λ s=>VS.obsXG 4 ala af5 alb (getT s))=some (He.valD af5):=W.byRow2 "special-get-raises" (P:=λ w=>(endF (stepQ (denQ tabQ) rwL.prog w) 16000 rwL.prog w os).map (λ s=>VS.obsXG 4 ala af5 alb (getT s))=some (He.valD af5)) (λ w=>runC0F w os) (λ w=>runC0T w os) w
theorem runC1F (w:World)(os:OsState):(endF (stepQ (denQ tabQ) rwL.prog (w.withFollow "special-get-raises" false)) 16000 rwL.prog (w.withFollow "special-get-raises" false) os).map (λ s=>VS.obsXG 4 alc af6 ald (getT s))=some (He.valD af6):=by kernel_rfl
theorem runC1T (w:World)(os:OsState):(endF (stepQ (denQ tabQ) rwL.prog (w.withFollow "special-get-raises" true)) 16000 rwL.prog (w.withFollow "special-get-raises" true) os).map (λ s=>VS.obsXG 4 alc af6 ald (getT s))=some (He.valD af6):=by kernel_rfl
theorem anA (w:World)(os:OsState):(endF (stepQ (denQ tabQ) rwL.prog w) 16000 rwL.prog w os).map (λ s=>VS.obsXG 4 alc af6 ald (getT s))=some (He.valD af6):=W.byRow2 "special-get-raises" (P:=λ w=>(endF (stepQ (denQ tabQ) rwL.prog w) 16000 rwL.prog w os).map (λ s=>VS.obsXG 4 alc af6 ald (getT s))=some (He.valD af6)) (λ w=>runC1F w os) (λ w=>runC1T w os) w
theorem runC2F (w:World)(os:OsState):(endF (stepQ (denQ tabQ) rwL.prog (w.withFollow "special-get-raises" false)) 16000 rwL.prog (w.withFollow "special-get-raises" false) os).map (λ s=>VS.obsXG 4 ale af7 alf (getT s))=some (He.valD af7):=by kernel_rfl
theorem runC2T (w:World)(os:OsState):(endF (stepQ (denQ tabQ) rwL.prog (w.withFollow "special-get-raises" true)) 16000 rwL.prog (w.withFollow "special-get-raises" true) os).map (λ s=>VS.obsXG 4 ale af7 alf (getT s))=some (He.valD af7):=by kernel_rfl
theorem anB (w:World)(os:OsState):(endF (stepQ (denQ tabQ) rwL.prog w) 16000 rwL.prog w os).map (λ s=>VS.obsXG 4 ale af7 alf (getT s))=some (He.valD af7):=W.byRow2 "special-get-raises" (P:=λ w=>(endF (stepQ (denQ tabQ) rwL.prog w) 16000 rwL.prog w os).map (λ s=>VS.obsXG 4 ale af7 alf (getT s))=some (He.valD af7)) (λ w=>runC2F w os) (λ w=>runC2T w os) w
theorem runDF (w:World)(os:OsState):(endF (stepQ (denQ tabQ) rwL.prog (w.withFollow "special-get-raises" false)) 16000 rwL.prog (w.withFollow "special-get-raises" false) os).map (λ s=>VS.tabsG tsL (getT s))=some (VS.tabsV tsL (w.withFollow "special-get-raises" false)):=by kernel_rfl
theorem runDT (w:World)(os:OsState):(endF (stepQ (denQ tabQ) rwL.prog (w.withFollow "special-get-raises" true)) 16000 rwL.prog (w.withFollow "special-get-raises" true) os).map (λ s=>VS.tabsG tsL (getT s))=some (VS.tabsV tsL (w.withFollow "special-get-raises" true)):=by kernel_rfl
theorem runD (w:World)(os:OsState):(endF (stepQ (denQ tabQ) rwL.prog w) 16000 rwL.prog w os).map (λ s=>VS.tabsG tsL (getT s))=some (VS.tabsV tsL w):=W.byRow2 "special-get-raises" (P:=λ w=>(endF (stepQ (denQ tabQ) rwL.prog w) 16000 rwL.prog w os).map (λ s=>VS.tabsG tsL (getT s))=some (VS.tabsV tsL w)) (λ w=>runDF w os) (λ w=>runDT w os) w
end
theorem runL (w:World):HandSHeadRun.RunEq rwL (W.view rwL.prog [35]) hkL obL 16000 nmL w:=λ os =>
 VS.af2 (runA w os) (runB w os) (VS.adg (VS.abF (VS.abF (anz w os) (anA w os)) (anB w os)) (runD w os))
end Tx
namespace VS
open PySem PySem.Spec PyProof.Rows L2
abbrev D:=PyData
abbrev Path:=List Nat
inductive S where
 | d (d:D)
 | ol (ds:List D)
 | odK (kvs:List (Key×D))
 | odT (kvs:List (List Key×D))
 | ob (c:Nat) (fs:List (Str×S))
 | scr (ns:List Int)
 | os (ss:List S)
 | ot (ss:List S)
 | b (d:D)
 | bl (ds:List D)
abbrev LS:=List (Option S)
inductive R (α:Type) where
 | ok (a:α) (L:LS)
 | err (c:Nat) (L:LS)
 | stuck
def R.bind {α β:Type}(r:R α)(k:α->LS->R β):R β :=
 match r with
 | .ok a L=>k a L
 | .err c L=>.err c L
 | .stuck=>.stuck
theorem R.bind_ok {α β:Type}(a:α)(L:LS)(k:α->LS->R β):(R.ok a L).bind k=k a L:=rfl
mutual
inductive Dq (K:W.Frag)(F:Hp):V->D->Prop
 | non:Dq K F .non .none
 | bl (b:Bool):Dq K F (.bl b) (.bool b)
 | int (i:Int):Dq K F (.int i) (.int i)
 | str (x:Str):Dq K F (.str x) (.str x)
 | lst {a:Addr} {xs:List V} {ds:List D}:F a=some (.lst xs)->DqA K F xs ds->Dq K F (.ref a) (.list ds)
 | tup {a:Addr} {xs:List V} {ds:List D}:F a=some (.tup xs)->DqA K F xs ds->Dq K F (.ref a) (.tuple ds)
inductive DqA (K:W.Frag)(F:Hp):List V->List D->Prop
 | nil:DqA K F [] []
 | cons {v:V} {vs:List V} {d:D} {ds:List D}:Dq K F v d->DqA K F vs ds->DqA K F (v::vs) (d::ds)
end
section
variable {K:PySem.W.Frag}{F F' H H':Hp}
theorem sqt_same {a:Addr}{xs:List V}(e:Same H H')(h:H a=some (.tup xs)):SqT K H' a xs:=.of (e _ _ h)
theorem sql_same {a:Addr}{xs:List V}(e:Same H H')(h:SqL K H a xs):SqL K H' a xs:=e.seq h
mutual
theorem Dq.mono (e:Same F F'):∀ (d:D) (v:V),Dq K F v d->Dq K F' v d
 | .none,_,h=>by cases h;exact .non
 | .bool _,_,h=>by cases h;exact .bl _
 | .int _,_,h=>by cases h;exact .int _
 | .str _,_,h=>by cases h;exact .str _
 | .list ds,_,h=>by
  cases h with
  | lst a b=>exact .lst (e _ _ a) (DqA.mono e ds _ b)
 | .tuple ds,_,h=>by
  cases h with
  | tup a b=>exact .tup (e _ _ a) (DqA.mono e ds _ b)
 | .dict _,_,h=>by cases h
theorem DqA.mono (e:Same F F'):∀ (ds:List D) (vs:List V),DqA K F vs ds->DqA K F' vs ds
 | [],_,h=>by cases h;exact .nil
 | d::ds,_,h=>by
  cases h with
  | cons a b=>exact .cons (Dq.mono e d _ a) (DqA.mono e ds _ b)
end
mutual
theorem Dq.dp:∀ (d:D) (v:V),Dq K F v d->Dp K F v d
 | .none,_,h=>by cases h;exact .non
 | .bool _,_,h=>by cases h;exact .bl _
 | .int _,_,h=>by cases h;exact .int _
 | .str _,_,h=>by cases h;exact .str _
 | .list ds,_,h=>by
  cases h with
  | lst a b=>exact .lst (.inl (.inl a)) (DqA.dp ds _ b)
 | .tuple ds,_,h=>by
  cases h with
  | tup a b=>exact .tup (.of a) (DqA.dp ds _ b)
 | .dict _,_,h=>by cases h
theorem DqA.dp:∀ (ds:List D) (vs:List V),DqA K F vs ds->DpAll K F vs ds
 | [],_,h=>by cases h;exact .nil
 | d::ds,_,h=>by
  cases h with
  | cons a b=>exact .cons (Dq.dp d _ a) (DqA.dp ds _ b)
end
theorem Dq.up {v:V}{d:D}(e:Same F F')(h:Dq K F v d):Dq K F' v d:=Dq.mono e d v h
theorem DqA.up {v:List V}{d:List D}(e:Same F F')(h:DqA K F v d):DqA K F' v d:=DqA.mono e d v h
theorem DqA.len:∀ {vs:List V} {ds:List D},DqA K F vs ds->vs.length=ds.length
 | _,_,.nil=>rfl
 | _,_,.cons _ t=>by rw[List.length_cons,List.length_cons,t.len]
theorem DqA.append:∀ {xs ys:List V} {ds es:List D},DqA K F xs ds->DqA K F ys es->DqA K F (xs++ys) (ds++es)
 | _,_,_,_,.nil,s=>s
 | _,_,_,_,.cons r t,s=>.cons r (t.append s)
theorem DqA.one {v:V}{d:D}(h:Dq K F v d):DqA K F [v] [d]:=.cons h .nil
theorem DqA.get:∀ {vs:List V} {ds:List D} {i:Nat} {d:D},DqA K F vs ds->ds[i]?=some d->∃ v,vs[i]?=some v/\Dq K F v d
 | _,_,_,_,.nil,e=>by simp at e
 | _,_,0,_,.cons r _,e=>by simp at e;subst e;exact⟨_,rfl,r⟩
 | _,_,i+1,d,.cons _ t,e=>by
  obtain⟨u,h1,h2⟩:=DqA.get (i:=i) (d:=d) t (by simpa using e);exact⟨u,by simpa using h1,h2⟩
theorem DqA.set {v:V}{d:D}(r:Dq K F v d):∀ {vs:List V} {ds:List D} (i:Nat),DqA K F vs ds->DqA K F (vs.set i v) (ds.set i d)
 | _,_,_,.nil=>.nil
 | _,_,0,.cons _ t=>.cons r t
 | _,_,i+1,.cons q t=>.cons q (DqA.set r i t)
theorem DqA.take:∀ {vs:List V} {ds:List D} (n:Nat),DqA K F vs ds->DqA K F (vs.take n) (ds.take n)
 | _,_,0,_=>.nil
 | _,_,_+1,.nil=>.nil
 | _,_,n+1,.cons r t=>.cons r (DqA.take n t)
theorem DqA.drop:∀ {vs:List V} {ds:List D} (n:Nat),DqA K F vs ds->DqA K F (vs.drop n) (ds.drop n)
 | _,_,0,r=>r
 | _,_,_+1,.nil=>.nil
 | _,_,n+1,.cons _ t=>DqA.drop n t
theorem DqA.erase:∀ {vs:List V} {ds:List D} (n:Nat),DqA K F vs ds->DqA K F (vs.eraseIdx n) (ds.eraseIdx n)
 | _,_,_,.nil=>.nil
 | _,_,0,.cons _ t=>t
 | _,_,n+1,.cons r t=>.cons r (DqA.erase n t)
theorem DqA.replicate {v:V}{d:D}(r:Dq K F v d):∀ n:Nat,DqA K F (List.replicate n v) (List.replicate n d)
 | 0=>.nil
 | n+1=>.cons r (DqA.replicate r n)
theorem DqA.ints:∀ ns:List Int,DqA K F (ns.map V.int) (ns.map PyData.int)
 | []=>.nil
 | n::ns=>.cons (.int n) (DqA.ints ns)
def DqK {κ:Type}(K:PySem.W.Frag)(F:Hp):List (κ×V)->List (κ×D)->Prop:=Paired λ p q=>p.1=q.1/\Dq K F p.2 q.2
theorem DqK.up {κ:Type}{l:List (κ×V)}{m:List (κ×D)}(e:Same F F')(h:DqK K F l m):DqK K F' l m:=Paired.mapP h λ _ _ z=>⟨z.1,z.2.up e⟩
end
mutual
inductive RS (K:PySem.W.Frag)(ca:Nat->Addr)(F H:Hp)(ow:Addr->Option Path):Path->S->V->Prop
 | d {p:Path} {d:D} {v:V}:Dq K F v d->RS K ca F H ow p (.d d) v
 | ol {p:Path} {l:Addr} {vs:List V} {ds:List D}:H l=some (.lst vs)->ow l=some p->DqA K F vs ds->RS K ca F H ow p (.ol ds) (.ref l)
 | odK {p:Path} {l:Addr} {vs:List (Key×V)} {ds:List (Key×D)}:H l=some (.dK vs)->ow l=some p->DqK K F vs ds->RS K ca F H ow p (.odK ds) (.ref l)
 | odT {p:Path} {l:Addr} {vs:List (List Key×V)} {ds:List (List Key×D)}:H l=some (.dT vs)->ow l=some p->DqK K F vs ds->RS K ca F H ow p (.odT ds) (.ref l)
 | ob {p:Path} {a dx:Addr} {c:Nat} {vs:List (Str×V)} {fs:List (Str×S)}:H a=some (.ins (ca c) dx vs)->ow a=some p->RF K ca F H ow p 0 fs vs->RS K ca F H ow p (.ob c fs) (.ref a)
 | scr {p:Path} {a:Addr} {ns:List Int}:SqL K F a (ns.map V.int)->RS K ca F H ow p (.scr ns) (.ref a)
 | os {p:Path} {l:Addr} {vs:List V} {ss:List S}:H l=some (.lst vs)->ow l=some p->RI K ca F H ow p 0 ss vs->RS K ca F H ow p (.os ss) (.ref l)
 | ot {p:Path} {l:Addr} {vs:List V} {ss:List S}:F l=some (.tup vs)->RI K ca F H ow p 0 ss vs->RS K ca F H ow p (.ot ss) (.ref l)
inductive RI (K:PySem.W.Frag)(ca:Nat->Addr)(F H:Hp)(ow:Addr->Option Path):Path->Nat->List S->List V->Prop
 | nil {p:Path} {i:Nat}:RI K ca F H ow p i [] []
 | cons {p:Path} {i:Nat} {s:S} {v:V} {ss:List S} {vs:List V}:RS K ca F H ow (p++[i]) s v->RI K ca F H ow p (i+1) ss vs->RI K ca F H ow p i (s::ss) (v::vs)
inductive RF (K:PySem.W.Frag)(ca:Nat->Addr)(F H:Hp)(ow:Addr->Option Path):Path->Nat->List (Str×S)->List (Str×V)->Prop
 | nil {p:Path} {i:Nat}:RF K ca F H ow p i [] []
 | cons {p:Path} {i:Nat} {x:Str} {s:S} {v:V} {fs:List (Str×S)} {vs:List (Str×V)}:RS K ca F H ow (p++[i]) s v->RF K ca F H ow p (i+1) fs vs->RF K ca F H ow p i ((x,s)::fs) ((x,v)::vs)
end
section
variable {K:PySem.W.Frag}{ca:Nat->Addr}{F F' H H':Hp}{ow ow':Addr->Option Path}
def Keeps (H H':Hp)(ow ow':Addr->Option Path)(p p':Path):Prop:=∀ a q,ow a=some (p++q)->H' a=H a/\ow' a=some (p'++q)
theorem Keeps.sub {p p':Path}(k:Keeps H H' ow ow' p p')(r:Path):Keeps H H' ow ow' (p++r) (p'++r):=λ a q h=>by
 rw[List.append_assoc]at h ⊢;exact k a _ h
mutual
theorem RS.move (e:Same F F'):∀ (s:S) (p p':Path) (v:V),Keeps H H' ow ow' p p'->RS K ca F H ow p s v->RS K ca F' H' ow' p' s v
 | .d _,p,p',v,k,h=>by
  cases h with
  | d a=>exact .d (a.up e)
 | .ol _,p,p',v,k,h=>by
  cases h with
  | ol a b c =>
   obtain⟨x,y⟩:=k _ [] (by rw[List.append_nil];exact b);rw[List.append_nil]at y;exact .ol (x.trans a) y (c.up e)
 | .odK _,p,p',v,k,h=>by
  cases h with
  | odK a b c =>
   obtain⟨x,y⟩:=k _ [] (by rw[List.append_nil];exact b);rw[List.append_nil]at y;exact .odK (x.trans a) y (c.up e)
 | .odT _,p,p',v,k,h=>by
  cases h with
  | odT a b c =>
   obtain⟨x,y⟩:=k _ [] (by rw[List.append_nil];exact b);rw[List.append_nil]at y;exact .odT (x.trans a) y (c.up e)
 | .ob _ fs,p,p',v,k,h=>by
  cases h with
  | ob a b c =>
   obtain⟨x,y⟩:=k _ [] (by rw[List.append_nil];exact b);rw[List.append_nil]at y;exact .ob (x.trans a) y (RF.move e fs _ _ _ _ k c)
 | .scr _,p,p',v,k,h=>by
  cases h with
  | scr a=>exact .scr (sql_same e a)
 | .os ss,p,p',v,k,h=>by
  cases h with
  | os a b c =>
   obtain⟨x,y⟩:=k _ [] (by rw[List.append_nil];exact b);rw[List.append_nil]at y;exact .os (x.trans a) y (RI.move e ss _ _ _ _ k c)
 | .ot ss,p,p',v,k,h=>by
  cases h with
  | ot a c=>exact .ot (e _ _ a) (RI.move e ss _ _ _ _ k c)
 | .b _,p,p',v,k,h=>by cases h
 | .bl _,p,p',v,k,h=>by cases h
theorem RI.move (e:Same F F'):∀ (ss:List S) (p p':Path) (i:Nat) (vs:List V),Keeps H H' ow ow' p p'->RI K ca F H ow p i ss vs->RI K ca F' H' ow' p' i ss vs
 | [],p,p',i,vs,k,h=>by cases h;exact .nil
 | s::ss,p,p',i,vs,k,h=>by
  cases h with
  | cons a b=>exact .cons (RS.move e s _ _ _ (k.sub [i]) a) (RI.move e ss _ _ _ _ k b)
theorem RF.move (e:Same F F'):∀ (fs:List (Str×S)) (p p':Path) (i:Nat) (vs:List (Str×V)),Keeps H H' ow ow' p p'->RF K ca F H ow p i fs vs->RF K ca F' H' ow' p' i fs vs
 | [],p,p',i,vs,k,h=>by cases h;exact .nil
 | (x,s)::fs,p,p',i,vs,k,h=>by
  cases h with
  | cons a b=>exact .cons (RS.move e s _ _ _ (k.sub [i]) a) (RF.move e fs _ _ _ _ k b)
end
theorem RS.go {s:S}{p p':Path}{v:V}(h:RS K ca F H ow p s v)(e:Same F F')(k:Keeps H H' ow ow' p p'):RS K ca F' H' ow' p' s v:=RS.move e s p p' v k h
def BF (B F:Hp):Hp:=λ a=>match B a with
 | some o=>some o
 | none=>F a
theorem BF.up {B:Hp}(e:Same F F'):Same (BF B F) (BF B F'):=λ a o h=>by
 unfold BF at h ⊢
 cases z:B a with
 | some u=>rw[z]at h;exact h
 | none=>rw[z]at h;exact e a o h
theorem BF.inF {B:Hp}(eF:Same F H)(eB:Same B H):Same F (BF B F):=λ a o h=>by
 unfold BF
 cases z:B a with
 | some u =>
  have h1:=eF a o h
  rw[eB a u z]at h1;exact h1
 | none=>exact h
theorem BF.inH {B:Hp}(eF:Same F H)(eB:Same B H):Same (BF B F) H:=λ a o h=>by
 unfold BF at h
 cases z:B a with
 | some u=>rw[z]at h;rw[←Option.some.inj h];exact eB a u z
 | none=>rw[z]at h;exact eF a o h
@[reducible] def RT (K:PySem.W.Frag)(ca:Nat->Addr)(B F H:Hp)(ow:Addr->Option Path)(p:Path)(s:S)(v:V):Prop:=match s with
 | .b d=>Dq K (BF B F) v d
 | .bl ds=>∃ l vs,v=.ref l/\BF B F l=some (.lst vs)/\DqA K F vs ds
 | s=>RS K ca F H ow p s v
theorem RT.go {B:Hp}{s:S}{p p':Path}{v:V}(h:RT K ca B F H ow p s v)(e:Same F F')(k:Keeps H H' ow ow' p p'):RT K ca B F' H' ow' p' s v:=by
 cases s with
 | b d=>exact Dq.up (BF.up e) h
 | bl ds =>
  obtain⟨l,vs,h1,h2,h3⟩:=h;exact⟨l,vs,h1,BF.up e l _ h2,h3.up e⟩
 | d d=>exact RS.go h e k
 | ol d=>exact RS.go h e k
 | odK d=>exact RS.go h e k
 | odT d=>exact RS.go h e k
 | ob c d=>exact RS.go h e k
 | scr d=>exact RS.go h e k
 | os d=>exact RS.go h e k
 | ot d=>exact RS.go h e k
theorem RT.of {B:Hp}{s:S}{p:Path}{v:V}(h:RS K ca F H ow p s v):RT K ca B F H ow p s v:=by
 cases h with
 | d a=>exact .d a
 | ol a b c=>exact .ol a b c
 | odK a b c=>exact .odK a b c
 | odT a b c=>exact .odT a b c
 | ob a b c=>exact .ob a b c
 | scr a=>exact .scr a
 | os a b c=>exact .os a b c
 | ot a c=>exact .ot a c
def S.own:S->Bool
 | .b _=>false
 | .bl _=>false
 | _=>true
def kT (o:HO):Prop:=∃ k:List Key,o=.tup (k.map kV)
def NT (x:Option HO):Prop:=x≠none/\∀ o,x=some o->¬ kT o
theorem NT.of {o:HO}(h:¬ kT o):NT (some o):=⟨λ z=>(by cases z),λ u e=>by cases e;exact h⟩
theorem kT_lst {vs:List V}:¬ kT (.lst vs):=λ⟨_,h⟩=>by cases h
theorem kT_dK {vs:List (Key×V)}:¬ kT (.dK vs):=λ⟨_,h⟩=>by cases h
theorem kT_dT {vs:List (List Key×V)}:¬ kT (.dT vs):=λ⟨_,h⟩=>by cases h
theorem kT_ins {a b:Addr}{vs:List (Str×V)}:¬ kT (.ins a b vs):=λ⟨_,h⟩=>by cases h
structure Rl (K:PySem.W.Frag)(ca:Nat->Addr)(B:Hp)(pn:List (Option V))(G F:Hp)(ow:Addr->Option Path)(σ:L2.St)(H:Hp)(L:LS):Prop where
 exF:Same F H
 exG:Same G H
 dF:∀ a p,ow a=some p->F a=none/\G a=none/\NT (H a)
 dG:∀ a o,F a=some o->G a=none∨kT o
 len:L.length=σ.length
 sl:∀ (i:Nat) (s:S),L[i]?=some (some s)->∃ v,σ[i]?=some (some v)/\RT K ca B F H ow [i+1] s v
 pin:∀ (i:Nat) (v:V),pn[i]?=some (some v)->σ[i]?=some (some v)
 exB:Same B H
 dB:∀ a p,ow a=some p->B a=none
end
structure Ct where
 X:Cx
 W:WX
 ca:Nat->Addr
 pb:List Bool
 v0:List V
 B:Hp
def pinOf:List Bool->List V->List (Option V)
 | b::bs,v::vs=>(if b then some v else none)::pinOf bs vs
 | _,_=>[]
theorem lO:∀ {bs:List Bool} {vs:List V} {i:Nat} {v:V},(pinOf bs vs)[i]?=some (some v)->bs[i]?=some true/\vs[i]?=some v
 | b::bs,u::vs,0,v,h=>by
  have h':(if b then some u else none)=some v:=Option.some.inj h
  cases b with
  | true=>exact⟨rfl,by rw[if_pos rfl]at h';cases h';rfl⟩
  | false=>cases h'
 | b::bs,u::vs,i+1,v,h=>lO (bs:=bs) (vs:=vs) (i:=i) h
 | [],_,_,_,h=>by cases h
 | _::_,[],_,_,h=>by cases h
theorem km:∀ {bs:List Bool} {vs:List V} {i:Nat} {v:V},bs[i]?=some true->vs[i]?=some v->(pinOf bs vs)[i]?=some (some v)
 | b::bs,u::vs,0,v,h,h2=>by
  have e1:b=true:=Option.some.inj h
  have e2:u=v:=Option.some.inj h2
  subst e1 e2
  rfl
 | b::bs,u::vs,i+1,v,h,h2=>km (bs:=bs) (vs:=vs) (i:=i) h h2
 | [],_,_,_,h,_=>by cases h
 | _::_,[],_,_,_,h=>by cases h
abbrev Ct.Rl (c:Ct)(G F:Hp)(ow:Addr->Option Path)(σ:L2.St)(H:Hp)(L:LS):Prop:=VS.Rl c.X.K c.ca c.B (pinOf c.pb c.v0) G F ow σ H L
def Post (c:Ct)(G:Hp)(n:Bool)(F H:Hp)(σ:L2.St){α β:Type}(r:R α)(B:Hp->Hp->(Addr->Option Path)->α->β->Prop)(t:(β->Hp->Prop)->Prop):Prop :=
 match r with
 | .ok a L=>∀ Q:β->Hp->Prop,(∀ b H' F' ow',Same F F'->(n=true->Same H H')->c.Rl G F' ow' σ H' L->B F' H' ow' a b->Q b H')->t Q
 | .err e L=>(∀ H' F' ow',Same F F'->c.Rl G F' ow' σ H' L->c.W (.ref (c.ca e)) none σ H')->∀ Q:β->Hp->Prop,t Q
 | .stuck=>True
section
variable {c:Ct}{G F H:Hp}{ow:Addr->Option Path}{σ:L2.St}{L:LS}{n n1 n2:Bool}{α β γ δ:Type}
theorem and_of {a b:Bool}(h:(a&&b)=true):a=true/\b=true:=by
 cases a<;>cases b<;>first | exact⟨rfl,rfl⟩ | cases h
theorem Post.bind {r:R α}{k:α->LS->R γ}{B1:Hp->Hp->(Addr->Option Path)->α->β->Prop}{B2:Hp->Hp->(Addr->Option Path)->γ->δ->Prop}{t1:(β->Hp->Prop)->Prop}{t2:β->Hp->(δ->Hp->Prop)->Prop}
  (h1:Post c G n1 F H σ r B1 t1)
  (h2:∀ a L1 b H1 F1 ow1,r=.ok a L1->Same F F1->(n1=true->Same H H1)->c.Rl G F1 ow1 σ H1 L1->B1 F1 H1 ow1 a b->Post c G n2 F1 H1 σ (k a L1) B2 (t2 b H1)) :
  Post c G (n1&&n2) F H σ (r.bind k) B2 (λ Q=>t1 λ b H1=>t2 b H1 Q):=by
 cases r with
 | stuck=>trivial
 | err e L1=>exact λ hw Q=>h1 hw _
 | ok a L1 =>
  rw[R.bind_ok]
  cases hk:k a L1 with
  | stuck=>trivial
  | ok z L2 =>
   intro Q hq;refine h1 _ λ b H1 F1 ow1 e1 s1 R1 q1=>?_
   have h:=h2 a L1 b H1 F1 ow1 rfl e1 s1 R1 q1
   rw[hk]at h;exact h Q λ b' H2 F2 ow2 e2 s2 R2 q2=>hq b' H2 F2 ow2 (e1.trans e2) (λ hn=>(s1 (and_of hn).1).trans (s2 (and_of hn).2)) R2 q2
  | err e L2 =>
   intro hw Q;refine h1 _ λ b H1 F1 ow1 e1 s1 R1 q1=>?_
   have h:=h2 a L1 b H1 F1 ow1 rfl e1 s1 R1 q1
   rw[hk]at h;exact h (λ H2 F2 ow2 e2 R2=>hw H2 F2 ow2 (e1.trans e2) R2) Q
theorem Post.val {a:α}{b:β}{B:Hp->Hp->(Addr->Option Path)->α->β->Prop}(Rr:c.Rl G F ow σ H L)(h:B F H ow a b):Post c G n F H σ (.ok a L) B (λ Q=>Q b H) :=
 λ _ q=>q b H F ow (Same.refl F) (λ _=>Same.refl H) Rr h
theorem Post.imp {r:R α}{B:Hp->Hp->(Addr->Option Path)->α->β->Prop}{t u:(β->Hp->Prop)->Prop}(h:Post c G n F H σ r B t)(k:∀ Q,t Q->u Q):Post c G n F H σ r B u:=by
 cases r with
 | stuck=>trivial
 | ok a L1=>exact λ Q q=>k Q (h Q q)
 | err e L1=>exact λ hw Q=>k Q (h hw Q)
theorem Post.low {r:R α}{B:Hp->Hp->(Addr->Option Path)->α->β->Prop}{t:(β->Hp->Prop)->Prop}(h:Post c G true F H σ r B t):Post c G n F H σ r B t:=by
 cases r with
 | stuck=>trivial
 | ok a L1=>exact λ Q q=>h Q λ b H1 F1 ow1 e1 s1 R1 q1=>q b H1 F1 ow1 e1 (λ _=>s1 rfl) R1 q1
 | err e L1=>exact h
end
def Jdg (c:Ct)(n:Bool){α β:Type}(g:LS->R α)(B:PySem.W.Frag->Hp->Hp->(Addr->Option Path)->α->β->Prop)(t:L2.St->Hp->(β->Hp->Prop)->Prop):Prop :=
 ∀ G F ow σ H L,c.Rl G F ow σ H L->Post c G n F H σ (g L) (B c.X.K) (t σ H)
def BD:PySem.W.Frag->Hp->Hp->(Addr->Option Path)->D->V->Prop:=λ K F _ _ d v=>Dq K F v d
def BA:PySem.W.Frag->Hp->Hp->(Addr->Option Path)->List D->List V->Prop:=λ K F _ _ d v=>DqA K F v d
def BE (ca:Nat->Addr):PySem.W.Frag->Hp->Hp->(Addr->Option Path)->S->V->Prop:=λ K F H ow s v=>RS K ca F H ow [0] s v
def BB:PySem.W.Frag->Hp->Hp->(Addr->Option Path)->Bool->Bool->Prop:=λ _ _ _ _ a b=>b=a
def BV:PySem.W.Frag->Hp->Hp->(Addr->Option Path)->D->V->Prop:=λ K F H _ d v=>Dq K F v d∨∃ l vs ds,v=.ref l/\d=.list ds/\SqL K H l vs/\DqA K F vs ds
def JD (c:Ct)(n:Bool)(e:Expr)(g:LS->R D):Prop:=∃ t,PE c.X e t/\Jdg c n g BD t
def JE (c:Ct)(n:Bool)(e:Expr)(g:LS->R S):Prop:=∃ t,PE c.X e t/\Jdg c n g (BE c.ca) t
def JV (c:Ct)(n:Bool)(e:Expr)(g:LS->R D):Prop:=∃ t,PE c.X e t/\Jdg c n g BV t
def JT (c:Ct)(n:Bool)(e:Expr)(g:LS->R Bool):Prop:=∃ t,PT c.X e t/\Jdg c n g BB t
def JW (c:Ct)(n:Bool)(e:Expr)(g:LS->R Bool):Prop:=∃ t,PW c.X e t/\Jdg c n g BB t
def JA (c:Ct)(n:Bool)(es:List Expr)(g:LS->R (List D)):Prop:=∃ t,PA c.X es t/\Jdg c n g BA t
section
variable {K:PySem.W.Frag}{ca:Nat->Addr}{bh:Hp}{pn:List (Option V)}{G F H:Hp}{ow:Addr->Option Path}{σ:L2.St}{L:LS}
def offAt (ow:Addr->Option Path)(l:Addr):Addr->Option Path:=λ a=>if a=l then none else ow a
theorem wH (ow:Addr->Option Path)(l:Addr):offAt ow l l=none:=if_pos rfl
theorem xP {ow:Addr->Option Path}{l a:Addr}(h:a≠l):offAt ow l a=ow a:=if_neg h
theorem eX {l:Addr}{o:HO}(h:F l=none):Same F (upd F l o):=λ b u e=>by
 rw[upd_ne (ne_of_none e h)];exact e
theorem jJ {α:Type}{l:List α}{i j:Nat}{a b:α}(h:(l.set i a)[j]?=some b):(i=j/\a=b)∨(i≠j/\l[j]?=some b):=by
 by_cases e:i=j
 ·subst e
  rw[List.getElem?_set]at h
  by_cases hl:i < l.length
  ·simp[hl]at h
   exact .inl ⟨rfl,h⟩
  ·simp[hl]at h
 ·rw[List.getElem?_set_ne e]at h;exact .inr ⟨e,h⟩
theorem adh {l:Addr}{p:Path}(h:∀ q,ow l≠some (p++q)):Keeps H H ow (offAt ow l) p p:=λ a q e=>by
 have ha:a≠l:=λ z=>by
  subst z
  exact h q e
 exact⟨rfl,by rw[xP ha];exact e⟩
theorem Rl.frz {l:Addr}{vs:List V}{p:Path}{L':LS}(r:Rl K ca bh pn G F ow σ H L)(hl:H l=some (.lst vs))(ho:ow l=some p)(hlen:L'.length=L.length)
  (hs:∀ (j:Nat) (s:S),L'[j]?=some (some s)->(L[j]?=some (some s)/\∀ q,p≠(j+1)::q)∨∃ v,σ[j]?=some (some v)/\RS K ca (upd F l (.lst vs)) H (offAt ow l) [j+1] s v) :
  Same F (upd F l (.lst vs))/\Rl K ca bh pn G (upd F l (.lst vs)) (offAt ow l) σ H L':=by
 obtain⟨f0,g0,h0⟩:=r.dF l p ho
 have e:Same F (upd F l (.lst vs)):=eX f0
 refine⟨e,λ a o h=>?_,r.exG,λ a q h=>?_,λ a o h=>?_,hlen.trans r.len,λ j s h=>?_,r.pin,r.exB,λ a q h=>?_⟩
 ·by_cases z:a=l
  ·subst z
   rw[upd_same]at h
   cases h
   exact hl
  ·rw[upd_ne z]at h;exact r.exF a o h
 ·by_cases z:a=l
  ·subst z
   rw[wH]at h
   cases h
  ·rw[xP z]at h;obtain⟨x,y,w⟩:=r.dF a q h;exact⟨by rw[upd_ne z];exact x,y,w⟩
 ·by_cases z:a=l
  ·subst z
   exact .inl g0
  ·rw[upd_ne z]at h;exact r.dG a o h
 ·rcases hs j s h with ⟨h1,h2⟩ | h1
  ·obtain⟨v,q1,q2⟩:=r.sl j s h1;exact⟨v,q1,q2.go e (adh λ q z=>h2 q (by rw[ho]at z;exact Option.some.inj z))⟩
  ·obtain⟨v,q1,q2⟩:=h1;exact⟨v,q1,RT.of q2⟩
 ·by_cases z:a=l
  ·subst z
   rw[wH]at h
   cases h
  ·rw[xP z]at h;exact r.dB a q h
def reroot (ow:Addr->Option Path)(i j:Nat):Addr->Option Path:=λ a=>match ow a with
 | some (r::q)=>if r=i then some (j::q) else some (r::q)
 | x=>x
theorem adi {i j:Nat}{a:Addr}{q:Path}(h:ow a=some (i::q)):reroot ow i j a=some (j::q):=by
 unfold reroot;rw[h];exact if_pos rfl
theorem adk {i j r:Nat}{a:Addr}{q:Path}(h:ow a=some (r::q))(hr:r≠i):reroot ow i j a=some (r::q):=by
 unfold reroot;rw[h];exact if_neg hr
theorem uO {i j:Nat}{a:Addr}{p:Path}(h:reroot ow i j a=some p):∃ q,ow a=some q:=by
 unfold reroot at h
 split at h
 ·exact⟨_,by assumption⟩
 ·exact⟨p,h⟩
theorem Rl.moved {i j:Nat}{σ':L2.St}{L':LS}(r:Rl K ca bh pn G F ow σ H L)(hlen:L'.length=σ'.length)
  (hs:∀ (k:Nat) (s:S),L'[k]?=some (some s)->(L[k]?=some (some s)/\σ'[k]?=σ[k]?/\k+1≠i)∨∃ v,σ'[k]?=some (some v)/\RS K ca F H (reroot ow i j) [k+1] s v)
  (hp:∀ (k:Nat) (v:V),pn[k]?=some (some v)->σ'[k]?=some (some v)):Rl K ca bh pn G F (reroot ow i j) σ' H L':=by
 refine⟨r.exF,r.exG,λ a q h=>?_,r.dG,hlen,λ k s h=>?_,hp,r.exB,λ a q h=>?_⟩
 ·obtain⟨q',h'⟩:=uO h;exact r.dF a q' h'
 ·rcases hs k s h with ⟨h1,h2,h3⟩ | h1
  ·obtain⟨v,q1,q2⟩:=r.sl k s h1;refine⟨v,h2.trans q1,q2.go (Same.refl F) λ a q e=>⟨rfl,?_⟩⟩;exact adk (q:=q) e h3
  ·obtain⟨v,q1,q2⟩:=h1;exact⟨v,q1,RT.of q2⟩
 ·obtain⟨q',h'⟩:=uO h;exact r.dB a q' h'
theorem oK {i j:Nat}:Keeps H H ow (reroot ow i j) [i] [j]:=λ _ _ e=>⟨rfl,adi e⟩
end
section
variable {c:Ct}{n n1 n2 n3:Bool}
def gC (d:D):LS->R D:=λ L=>.ok d L
theorem alh {e:Expr}{v:V}{d:D}(h:PE c.X e (tC v))(hd:∀ K F,Dq K F v d):JD c true e (gC d):=⟨_,h,λ G F ow σ H L Rr=>Post.val Rr (hd _ _)⟩
theorem ao {i j pos}:JD c true (.Constant (.int i) j pos) (gC (.int i)):=alh pe_int λ _ _=>.int _
theorem uP {b j pos}:JD c true (.Constant (.bool b) j pos) (gC (.bool b)):=alh pe_bl λ _ _=>.bl _
theorem jt {j pos}:JD c true (.Constant .none j pos) (gC .none):=alh pe_non λ _ _=>.non
theorem aP {x j pos}:JD c true (.Constant (.str x) j pos) (gC (.str x)):=alh pe_str λ _ _=>.str _
def gVar (i:Nat):LS->R D:=λ L=>match L[i]? with
 | some (some (.d d))=>.ok d L
 | some (some (.ol ds))=>.ok (.list ds) (L.set i (some (.d (.list ds))))
 | _=>.stuck
theorem aF (i:Nat){x:Str}{pos:Pos}(h:PE c.X (.Name x pos) (tVar i)):JD c true (.Name x pos) (gVar i):=by
 refine⟨_,h,λ G F ow σ H L Rr=>?_⟩;unfold gVar
 cases hL:L[i]? with
 | none=>trivial
 | some o =>
  cases o with
  | none=>trivial
  | some s =>
   obtain⟨v,hv,rs⟩:=Rr.sl i s hL
   cases s with
   | d d =>
    cases rs with
    | d q=>exact(Post.val (b:=v) Rr q).imp λ Q q=>⟨v,hv,q⟩
   | ol ds =>
    cases rs with
    | ol a b q =>
     have hlt:i < L.length:=(List.getElem?_eq_some_iff.mp hL).1
     obtain⟨e,r'⟩:=Rr.frz (L':=L.set i (some (.d (.list ds)))) a b (List.length_set ..) (λ j s' h'=>by
      rcases jJ h' with ⟨rfl,hs⟩ | ⟨hj,hs⟩
      ·cases Option.some.inj hs
       exact .inr ⟨_,hv,.d (.lst upd_same (q.up (eX (Rr.dF _ _ b).1)))⟩
      ·exact .inl ⟨hs,λ q z=>hj (by injection z with z _;omega)⟩)
     refine Post.imp (t:=λ Q=>Q _ H) ?_ λ Q q=>⟨_,hv,q⟩;intro Q q';exact q' _ H _ _ e (λ _=>Same.refl H) r' (.lst upd_same (q.up e))
   | _=>trivial
def gMove (i:Nat):LS->R S:=λ L=>match L[i]? with
 | some (some (.d d))=>.ok (.d d) L
 | some (some (.scr _))=>.stuck
 | some (some (.b _))=>.stuck
 | some (some (.bl _))=>.stuck
 | some (some s)=>.ok s (L.set i none)
 | _=>.stuck
theorem nu (i:Nat){x:Str}{pos:Pos}(h:PE c.X (.Name x pos) (tVar i)):JE c true (.Name x pos) (gMove i):=by
 refine⟨_,h,λ G F ow σ H L Rr=>?_⟩;unfold gMove
 cases hL:L[i]? with
 | none=>trivial
 | some o =>
  cases o with
  | none=>trivial
  | some s =>
   obtain⟨v,hv,rs⟩:=Rr.sl i s hL
   have own:∀ s,RS c.X.K c.ca F H ow [i+1] s v->Post c G true F H σ (.ok s (L.set i none)) (BE c.ca c.X.K) (tVar i σ H):=λ s rs=>by
    refine Post.imp (t:=λ Q=>Q v H) ?_ λ Q q=>⟨_,hv,q⟩;intro Q q';refine q' v H F (reroot ow (i+1) 0) (Same.refl F) (λ _=>Same.refl H) (Rr.moved ((List.length_set ..).trans Rr.len) (λ k s' h'=>?_) Rr.pin) (rs.go (Same.refl F) oK);rcases jJ h' with ⟨rfl,hs⟩ | ⟨hj,hs⟩
    ·cases hs
    ·exact .inl ⟨hs,rfl,by omega⟩
   cases s with
   | d d=>exact(Post.val (b:=v) (B:=BE c.ca c.X.K) Rr (by cases rs with | d q=>exact .d q)).imp λ Q q=>⟨v,hv,q⟩
   | scr ns=>trivial
   | b d=>trivial
   | bl d=>trivial
   | os ss=>exact own _ rs
   | ot ss=>exact own _ rs
   | ol ds=>exact own _ rs
   | odK ds=>exact own _ rs
   | odT ds=>exact own _ rs
   | ob k fs=>exact own _ rs
def gPeek (i:Nat):LS->R D:=λ L=>match L[i]? with
 | some (some (.d d))=>.ok d L
 | some (some (.ol ds))=>.ok (.list ds) L
 | some (some (.scr ns))=>.ok (.list (ns.map PyData.int)) L
 | some (some (.bl ds))=>.ok (.list ds) L
 | _=>.stuck
theorem adl {K:PySem.W.Frag}{ca:Nat->Addr}{B F H:Hp}{ow:Addr->Option Path}{p:Path}{s:S}{v:V}(e:Same F H)(eB:Same B H)(rs:RT K ca B F H ow p s v) :
  match s with
  | .d d=>BV K F H ow d v
  | .ol ds=>BV K F H ow (.list ds) v
  | .scr ns=>BV K F H ow (.list (ns.map PyData.int)) v
  | .bl ds=>BV K F H ow (.list ds) v
  | _=>True:=by
 cases s with
 | d d=>cases rs with | d q=>exact .inl q
 | ol ds=>cases rs with | ol a b q=>exact .inr ⟨_,_,_,rfl,rfl,.of a,q⟩
 | scr ns=>cases rs with | scr a=>exact .inr ⟨_,_,_,rfl,rfl,sql_same e a,DqA.ints _⟩
 | bl ds =>
  obtain⟨l,vs,h1,h2,h3⟩:=rs
  exact .inr ⟨l,vs,ds,h1,rfl,.of (BF.inH e eB l _ h2),h3⟩
 | _=>trivial
theorem aq (i:Nat){x:Str}{pos:Pos}(h:PE c.X (.Name x pos) (tVar i)):JV c true (.Name x pos) (gPeek i):=by
 refine⟨_,h,λ G F ow σ H L Rr=>?_⟩;unfold gPeek
 cases hL:L[i]? with
 | none=>trivial
 | some o =>
  cases o with
  | none=>trivial
  | some s =>
   obtain⟨v,hv,rs⟩:=Rr.sl i s hL
   have hb:=adl Rr.exF Rr.exB rs
   cases s with
   | d d=>exact(Post.val (b:=v) Rr hb).imp λ Q q=>⟨v,hv,q⟩
   | scr ns=>exact(Post.val (b:=v) Rr hb).imp λ Q q=>⟨v,hv,q⟩
   | ol ds=>exact(Post.val (b:=v) Rr hb).imp λ Q q=>⟨v,hv,q⟩
   | bl ds=>exact(Post.val (b:=v) Rr hb).imp λ Q q=>⟨v,hv,q⟩
   | _=>trivial
def gD (g:LS->R D):LS->R S:=λ L=>(g L).bind λ d L1=>.ok (.d d) L1
theorem jG {e:Expr}{g:LS->R D}(h:JD c n e g):JE c n e (gD g):=by
 obtain⟨t,ht,hg⟩:=h;refine⟨t,ht,λ G F ow σ H L Rr=>?_⟩
 have:=(hg G F ow σ H L Rr).bind (n2:=true) (k:=λ d L1=>.ok (.d d) L1) (B2:=BE c.ca c.X.K) (t2:=λ b H1 Q=>Q b H1) λ a L1 b H1 F1 ow1 _ _ _ R1 q=>Post.val (a:=S.d a) (B:=BE c.ca c.X.K) R1 (RS.d q)
 rw[Bool.and_true]at this;exact this
theorem dU {e:Expr}{g:LS->R D}(h:JD c n e g):JV c n e g:=by
 obtain⟨t,ht,hg⟩:=h;refine⟨t,ht,λ G F ow σ H L Rr=>?_⟩
 have p:=hg G F ow σ H L Rr
 cases hr:g L with
 | stuck=>trivial
 | err e L1=>rw[hr]at p;exact p
 | ok a L1 =>
  rw[hr]at p;exact λ Q q=>p Q λ b H' F' ow' e1 s1 R1 q1=>q b H' F' ow' e1 s1 R1 (.inl q1)
def frS:S->LS->R D
 | .d d,L=>.ok d L
 | .ol ds,L=>.ok (.list ds) L
 | _,_=>.stuck
def gFz (g:LS->R S):LS->R D:=λ L=>(g L).bind frS
theorem aiS {G F H:Hp}{ow:Addr->Option Path}{σ:L2.St}{L:LS}{s:S}{v:V}(Rr:c.Rl G F ow σ H L)(rs:RS c.X.K c.ca F H ow [0] s v):Post c G true F H σ (frS s L) (BD c.X.K) (λ Q=>Q v H):=by
 cases s with
 | d d=>exact Post.val Rr (by cases rs with | d q=>exact q)
 | ol ds =>
  cases rs with
  | ol a b q =>
   obtain⟨e,r'⟩:=Rr.frz (L':=L) a b rfl (λ j s' h'=>.inl ⟨h',λ q z=>by injection z with z _;omega⟩);intro Q q';exact q' _ H _ _ e (λ _=>Same.refl H) r' (.lst upd_same (q.up e))
 | _=>trivial
theorem aM {e:Expr}{g:LS->R S}(h:JE c n e g):JD c n e (gFz g):=by
 obtain⟨t,ht,hg⟩:=h;refine⟨t,ht,λ G F ow σ H L Rr=>?_⟩
 have:=(hg G F ow σ H L Rr).bind (n2:=true) (k:=frS) (B2:=BD c.X.K) (t2:=λ b H1 Q=>Q b H1) λ a L1 b H1 F1 ow1 _ _ _ R1 q=>aiS R1 q
 rw[Bool.and_true]at this;exact this
def onAt (ow:Addr->Option Path)(l:Addr)(p:Path):Addr->Option Path:=λ a=>if a=l then some p else ow a
theorem qX (ow:Addr->Option Path)(l:Addr)(p:Path):onAt ow l p l=some p:=if_pos rfl
theorem nA {ow:Addr->Option Path}{l a:Addr}{p:Path}(h:a≠l):onAt ow l p a=ow a:=if_neg h
theorem pG {H:Hp}{a l:Addr}(h:H a≠none)(hl:H l=none):a≠l:=λ z=>by
 subst z
 exact h hl
section
variable {K:PySem.W.Frag}{ca:Nat->Addr}{bh:Hp}{pn:List (Option V)}{G F H:Hp}{ow:Addr->Option Path}{σ:L2.St}{L:LS}
theorem Rl.keepsNew (r:Rl K ca bh pn G F ow σ H L){l:Addr}{o:HO}{p q:Path}(hl:H l=none):Keeps H (upd H l o) ow (onAt ow l p) q q:=λ a w h=>by
 have ha:a≠l:=pG (r.dF a _ h).2.2.1 hl
 exact⟨upd_ne ha,by rw[nA ha];exact h⟩
theorem Rl.new (r:Rl K ca bh pn G F ow σ H L){l:Addr}{o:HO}{p:Path}(hl:H l=none)(ho:¬ kT o:=by first | exact kT_lst | exact kT_dK | exact kT_dT | exact kT_ins):Same H (upd H l o)/\Rl K ca bh pn G F (onAt ow l p) σ (upd H l o) L:=by
 have e:Same H (upd H l o):=eX hl
 have fN:F l=none:=r.exF.free hl
 have gN:G l=none:=r.exG.free hl
 refine⟨e,r.exF.trans e,r.exG.trans e,λ a q h=>?_,r.dG,r.len,λ i s h=>?_,r.pin,r.exB.trans e,λ a q h=>?_⟩
 ·by_cases z:a=l
  ·subst z
   exact⟨fN,gN,by rw[upd_same];exact .of ho⟩
  ·rw[nA z]at h;obtain⟨x,y,w⟩:=r.dF a q h;exact⟨x,y,by rw[upd_ne z];exact w⟩
 ·obtain⟨v,q1,q2⟩:=r.sl i s h;exact⟨v,q1,q2.go (Same.refl F) (r.keepsNew hl)⟩
 ·by_cases z:a=l
  ·subst z
   exact r.exB.free hl
  ·rw[nA z]at h;exact r.dB a q h
theorem Rl.newF (r:Rl K ca bh pn G F ow σ H L){l:Addr}{o:HO}(hl:H l=none):Same F (upd F l o)/\Same H (upd H l o)/\Rl K ca bh pn G (upd F l o) ow σ (upd H l o) L:=by
 have e:Same H (upd H l o):=eX hl
 have fN:F l=none:=r.exF.free hl
 have gN:G l=none:=r.exG.free hl
 refine⟨eX fN,e,λ a u h=>?_,r.exG.trans e,λ a q h=>?_,λ a u h=>?_,r.len,λ i s h=>?_,r.pin,r.exB.trans e,r.dB⟩
 ·by_cases z:a=l
  ·subst z
   rw[upd_same]at h ⊢;exact h
  ·rw[upd_ne z]at h ⊢;exact r.exF a u h
 ·have ha:a≠l:=pG (r.dF a _ h).2.2.1 hl
  obtain⟨x,y,w⟩:=r.dF a q h;exact⟨by rw[upd_ne ha];exact x,y,by rw[upd_ne ha];exact w⟩
 ·by_cases z:a=l
  ·subst z
   exact .inl gN
  ·rw[upd_ne z]at h;exact r.dG a u h
 ·obtain⟨v,q1,q2⟩:=r.sl i s h;refine⟨v,q1,q2.go (eX fN) λ a w h=>?_⟩;exact⟨upd_ne (pG (r.dF a _ h).2.2.1 hl),h⟩
end
theorem nH {G F H:Hp}{ow:Addr->Option Path}{σ:L2.St}{L:LS}{vs:List V}{ds:List D}(Rr:c.Rl G F ow σ H L)(h:DqA c.X.K F vs ds) :
  Post c G true F H σ (.ok (.ol ds) L) (BE c.ca c.X.K) (λ Q=>∀ l,H l=none->Q (.ref l) (upd H l (.lst vs))):=by
 intro Q q l hl;obtain⟨e,r'⟩:=Rr.new (o:=.lst vs) (p:=[0]) hl;exact q _ _ F _ (Same.refl F) (λ _=>e) r' (.ol upd_same (qX ..) h)
theorem abG {G F H:Hp}{ow:Addr->Option Path}{σ:L2.St}{L:LS}{vs:List V}{ds:List D}(Rr:c.Rl G F ow σ H L)(h:DqA c.X.K F vs ds) :
  Post c G true F H σ (.ok (.tuple ds) L) (BD c.X.K) (λ Q=>∀ l,H l=none->Q (.ref l) (upd H l (.tup vs))):=by
 intro Q q l hl;obtain⟨e1,e,r'⟩:=Rr.newF (o:=.tup vs) hl;exact q _ _ _ ow e1 (λ _=>e) r' (.tup upd_same (h.up e1))
def gNil:LS->R (List D):=λ L=>.ok [] L
def gCons (a:LS->R D)(r:LS->R (List D)):LS->R (List D):=λ L=>(a L).bind λ d L1=>(r L1).bind λ ds L2=>.ok (d::ds) L2
theorem d8:JA c true [] gNil:=⟨_,pa_nil,λ G F ow σ H L Rr=>Post.val Rr .nil⟩
theorem aH {e:Expr}{es:List Expr}{a:LS->R D}{r:LS->R (List D)}(h1:JD c n1 e a)(h2:JA c n2 es r)(hs:starEach (e::es) c.X.env=(false,eval e c.X.env)::starEach es c.X.env:=by rfl):JA c (n1&&n2) (e::es) (gCons a r):=by
 obtain⟨t1,p1,q1⟩:=h1;obtain⟨t2,p2,q2⟩:=h2;refine⟨_,pa_cons p1 p2 hs,λ G F ow σ H L Rr=>?_⟩;refine(q1 G F ow σ H L Rr).bind λ d L1 v H1 F1 ow1 _ _ _ R1 b1=>?_
 have:=(q2 G F1 ow1 σ H1 L1 R1).bind (n2:=true) (k:=λ ds L2=>.ok (d::ds) L2) (B2:=BA c.X.K) (t2:=λ vs H2 Q=>Q (v::vs) H2) λ ds L2 vs H2 F2 ow2 _ e2 _ R2 b2=>Post.val R2 (.cons (b1.up e2) b2)
 rw[Bool.and_true]at this;exact this
def gLst (a:LS->R (List D)):LS->R S:=λ L=>(a L).bind λ ds L1=>if ds.length<=sizeLine then .ok (.ol ds) L1 else .stuck
def gTup (a:LS->R (List D)):LS->R D:=λ L=>(a L).bind λ ds L1=>if ds.length<=sizeLine then .ok (.tuple ds) L1 else .stuck
theorem Post.guard {α β:Type}{G F H:Hp}{σ:L2.St}{p:Prop}[Decidable p]{r:R α}{B:Hp->Hp->(Addr->Option Path)->α->β->Prop}{t:(β->Hp->Prop)->Prop}(h:p->Post c G n F H σ r B t):Post c G n F H σ (if p then r else .stuck) B t:=by
 by_cases hp:p
 ·rw[if_pos hp];exact h hp
 ·rw[if_neg hp]
  trivial
theorem ju {es:List Expr}{pos:Pos}{a:LS->R (List D)}(h:JA c n es a):JE c n (.List es pos) (gLst a):=by
 obtain⟨t,p,q⟩:=h;refine⟨_,pe_lst p,λ G F ow σ H L Rr=>?_⟩
 have:=(q G F ow σ H L Rr).bind (n2:=true) (k:=λ ds L1=>if ds.length<=sizeLine then R.ok (.ol ds) L1 else .stuck) (B2:=BE c.ca c.X.K) (t2:=λ vs H1 Q=>vs.length<=sizeLine/\∀ l,H1 l=none->Q (.ref l) (upd H1 l (.lst vs)))
  λ ds L1 vs H1 F1 ow1 _ _ _ R1 b1=>Post.guard λ hz=>(nH R1 b1).imp λ Q q=>⟨by rw[DqA.len b1];exact hz,q⟩
 rw[Bool.and_true]at this;exact this
end
section
variable {c:Ct}{n n1 n2 n3:Bool}
theorem Post.bind1 {α β γ δ:Type}{G F H:Hp}{σ:L2.St}{r:R α}{k:α->LS->R γ}{B1:Hp->Hp->(Addr->Option Path)->α->β->Prop}{B2:Hp->Hp->(Addr->Option Path)->γ->δ->Prop}{t1:(β->Hp->Prop)->Prop}{t2:β->Hp->(δ->Hp->Prop)->Prop}
  (h1:Post c G n F H σ r B1 t1)
  (h2:∀ a L1 b H1 F1 ow1,r=.ok a L1->Same F F1->(n=true->Same H H1)->c.Rl G F1 ow1 σ H1 L1->B1 F1 H1 ow1 a b->Post c G true F1 H1 σ (k a L1) B2 (t2 b H1)) :
  Post c G n F H σ (r.bind k) B2 (λ Q=>t1 λ b H1=>t2 b H1 Q):=by
 have h:=h1.bind h2
 rw[Bool.and_true]at h;exact h
def uQ (K:PySem.W.Frag)(r:R2)(f:D->D->Option D):Prop :=
 ∀ (F H:Hp) (x y:V) (d e z:D),Same F H->Dq K F x d->Dq K F y e->f d e=some z->∃ v,Dq K F v z/\∀ Q:VK,Q v H->r x y H Q
def Leaf2S (K:PySem.W.Frag)(r:R2)(f:D->D->Option S):Prop :=
 ∀ (F H:Hp) (x y:V) (d e:D) (z:S),Same F H->Dq K F x d->Dq K F y e->f d e=some z ->
  (∃ d v,z=.d d/\Dq K F v d/\∀ Q:VK,Q v H->r x y H Q)∨∃ ds vs,z=.ol ds/\DqA K F vs ds/\∀ Q:VK,(∀ l,H l=none->Q (.ref l) (upd H l (.lst vs)))->r x y H Q
def ofO {α:Type}(o:Option α)(L:LS):R α:=match o with
 | some a=>.ok a L
 | none=>.stuck
theorem af8 {α:Type}(a:α)(L:LS):ofO (some a) L=.ok a L:=rfl
theorem af9 {α:Type}(L:LS):(ofO none L:R α)=.stuck:=rfl
def gOp {α:Type}(f:D->D->Option α)(a b:LS->R D):LS->R α:=λ L=>(a L).bind λ d L1=>(b L1).bind λ e L2=>ofO (f d e) L2
theorem aif {r:R2}{f:D->D->Option D}(lf:uQ c.X.K r f){ga gb:LS->R D}{ta tb:TE}(ha:Jdg c n1 ga BD ta)(hb:Jdg c n2 gb BD tb):Jdg c (n1&&n2) (gOp f ga gb) BD (tOp r ta tb):=by
 intro G F ow σ H L Rr;refine(ha G F ow σ H L Rr).bind λ d L1 v H1 F1 ow1 _ _ _ R1 b1=>?_;refine(hb G F1 ow1 σ H1 L1 R1).bind1 λ e L2 u H2 F2 ow2 _ e2 _ R2 b2=>?_
 cases hf:f d e with
 | none=>trivial
 | some z =>
  obtain⟨w,hw,q⟩:=lf F2 H2 v u d e z R2.exF (b1.up e2) b2 hf;exact(Post.val R2 hw).imp q
theorem adm {r:R2}{f:D->D->Option S}(lf:Leaf2S c.X.K r f){ga gb:LS->R D}{ta tb:TE}(ha:Jdg c n1 ga BD ta)(hb:Jdg c n2 gb BD tb):Jdg c (n1&&n2) (gOp f ga gb) (BE c.ca) (tOp r ta tb):=by
 intro G F ow σ H L Rr;refine(ha G F ow σ H L Rr).bind λ d L1 v H1 F1 ow1 _ _ _ R1 b1=>?_;refine(hb G F1 ow1 σ H1 L1 R1).bind1 λ e L2 u H2 F2 ow2 _ e2 _ R2 b2=>?_
 cases hf:f d e with
 | none=>trivial
 | some z =>
  rcases lf F2 H2 v u d e z R2.exF (b1.up e2) b2 hf with ⟨d',w,rfl,hw,q⟩ | ⟨ds,vs,rfl,hw,q⟩
  ·exact(Post.val (a:=S.d d') (B:=BE c.ca c.X.K) R2 (RS.d hw)).imp q
  ·exact(nH R2 hw).imp q
theorem Leaf2S.or {K:PySem.W.Frag}{r r':R2}{f f':D->D->Option S}(h:Leaf2S K r f)(h':Leaf2S K r' f'):Leaf2S K (λ x y H Q=>r x y H Q∨r' x y H Q) (λ d e=>(f d e).orElse λ _=>f' d e):=by
 intro F H x y d e z s hx hy hf
 have hf:(f d e).orElse (λ _=>f' d e)=some z:=hf
 cases h1:f d e with
 | some w =>
  rw[h1]at hf
  rcases h F H x y d e w s hx hy h1 with ⟨a,b,p,q,k⟩ | ⟨a,b,p,q,k⟩
  ·cases hf;exact .inl ⟨a,b,p,q,λ Q z=>.inl (k Q z)⟩
  ·cases hf;exact .inr ⟨a,b,p,q,λ Q z=>.inl (k Q z)⟩
 | none =>
  rw[h1]at hf
  have h2:f' d e=some z:=hf
  rcases h' F H x y d e z s hx hy h2 with ⟨a,b,p,q,k⟩ | ⟨a,b,p,q,k⟩
  ·exact .inl ⟨a,b,p,q,λ Q z=>.inr (k Q z)⟩
  ·exact .inr ⟨a,b,p,q,λ Q z=>.inr (k Q z)⟩
def xQ (C:Int->Int->Bool)(g:Int->Int->D):D->D->Option D
 | .int i,.int j=>if C i j then some (g i j) else none
 | _,_=>none
theorem leaf_int {K:PySem.W.Frag}{r:R2}{C:Int->Int->Bool}{g:Int->Int->D}{gv:Int->Int->V}(hr:∀ (i j:Int) (H:Hp) (Q:VK),C i j=true->Q (gv i j) H->r (.int i) (.int j) H Q)(hg:∀ i j F,Dq K F (gv i j) (g i j)):uQ K r (xQ C g):=by
 intro F H x y d e z _ hx hy hf
 cases hx with
 | int i =>
  cases hy with
  | int j =>
   by_cases hC:C i j=true
   ·have hf':some (g i j)=some z:=by
     have:xQ C g (.int i) (.int j)=some (g i j):=if_pos hC
     rw[this]at hf
     exact hf
    cases hf'
    exact⟨_,hg i j F,λ Q q=>hr i j H Q hC q⟩
   ·have:xQ C g (.int i) (.int j)=none:=if_neg hC
    rw[this]at hf
    cases hf
  | _=>cases hf
 | _=>cases hf
abbrev ao3:Int->Int->Bool:=λ _ _=>true
def mulOk (i j:Int):Bool:=decide ((-(2 ^ 64) < i/\i < 2 ^ 64)∨(-(2 ^ 64) < j/\j < 2 ^ 64))
def divOk (_ j:Int):Bool:=decide (0 < j/\j < 1073741824)
def modOk (_ j:Int):Bool:=decide (0 < j)
def powOk (i j:Int):Bool:=decide (0<=j/\j<=1000000/\i.natAbs < 2 ^ 64)
theorem aga {i j:Int}(h:mulOk i j=true):CMul i j:=by
 have h':=of_decide_eq_true h
 exact h'
theorem agb {i j:Int}(h:divOk i j=true):CDiv i j:=by
 have h':=of_decide_eq_true h
 exact h'
theorem agc {i j:Int}(h:powOk i j=true):CPow i j:=by
 have h':=of_decide_eq_true h
 exact h'
def dSub:D->D->Option D:=xQ ao3 λ i j=>.int (i - j)
def dMod:D->D->Option D:=xQ modOk λ i j=>.int (i % j)
def dDiv:D->D->Option D:=xQ divOk λ i j=>.int (i / j)
def dPow:D->D->Option D:=xQ powOk λ i j=>.int (i ^ j.toNat)
def dLift (f:D->D->Option D):D->D->Option S:=λ d e=>(f d e).map S.d
theorem uQ.lift {K:PySem.W.Frag}{r:R2}{f:D->D->Option D}(h:uQ K r f):Leaf2S K r (dLift f):=by
 intro F H x y d e z s hx hy hf
 obtain⟨w,hw,e1⟩:=Option.map_eq_some_iff.mp hf
 obtain⟨v,hv,q⟩:=h F H x y d e w s hx hy hw
 exact .inl ⟨w,v,e1.symm,hv,q⟩
def dAddI:D->D->Option D:=xQ ao3 λ i j=>.int (i+j)
def dAddT:D->D->Option D
 | .str x,.str y=>if x.length+y.length<=sizeLine then some (.str (x++y)) else none
 | _,_=>none
def dAddL:D->D->Option S
 | .list xs,.list ys=>if xs.length+ys.length<=sizeLine then some (.ol (xs++ys)) else none
 | _,_=>none
def dAdd:D->D->Option S:=λ d e=>(dLift dAddI d e).orElse λ _=>(dLift dAddT d e).orElse λ _=>dAddL d e
theorem agd (i j:Int):dAdd (.int i) (.int j)=some (.d (.int (i+j))):=rfl
theorem abH (x y:Str):dAdd (.str x) (.str y)=if x.length+y.length<=sizeLine then some (.d (.str (x++y))) else none:=by
 show((dAddT (.str x) (.str y)).map S.d).orElse _=_;unfold dAddT
 by_cases h:x.length+y.length<=sizeLine
 ·simp[h]
 ·simp[h,dAddL]
theorem adn (x y:List D):dAdd (.list x) (.list y)=if x.length+y.length<=sizeLine then some (.ol (x++y)) else none:=rfl
def dMulI:D->D->Option D:=xQ mulOk λ i j=>.int (i * j)
def repOk (n:Nat)(k:Int):Bool:=decide (-(2 ^ 63)<=k/\k < 2 ^ 63/\n * k.toNat<=sizeLine)
def dMulL:D->D->Option S
 | .list xs,.int k=>if repOk xs.length k then some (.ol (List.replicate k.toNat xs).flatten) else none
 | _,_=>none
def dMul:D->D->Option S:=λ d e=>(dLift dMulI d e).orElse λ _=>dMulL d e
theorem ali {K:PySem.W.Frag}:uQ K (rI0 λ i j=>.int (i+j)) dAddI:=leaf_int (gv:=λ i j=>.int (i+j)) (λ i j H Q _ q=>⟨i,j,rfl,rfl,q⟩) λ _ _ _=>.int _
theorem alj {K:PySem.W.Frag}:uQ K (λ x y H Q=>∃ i j,x=.str i/\y=.str j/\i.length+j.length<=sizeLine/\Q (.str (i++j)) H) dAddT:=by
 intro F H x y d e z _ hx hy hf
 cases hx with
 | str a =>
  cases hy with
  | str b =>
   by_cases h:a.length+b.length<=sizeLine
   ·have hz:some (PyData.str (a++b))=some z:=(if_pos h).symm.trans hf
    cases hz
    exact⟨_,.str _,λ Q q=>⟨a,b,rfl,rfl,h,q⟩⟩
   ·have hz:none=some z:=(if_neg h).symm.trans hf
    cases hz
  | _=>cases hf
 | _=>cases hf
theorem ado {K:PySem.W.Frag}:Leaf2S K rCat dAddL:=by
 intro F H x y d e z s hx hy hf
 cases hx with
 | lst a1 a2 =>
  cases hy with
  | lst b1 b2 =>
   rename_i l xs ds l' ys es
   by_cases h:ds.length+es.length<=sizeLine
   ·have hz:some (S.ol (ds++es))=some z:=(if_pos h).symm.trans hf
    cases hz
    exact .inr ⟨_,xs++ys,rfl,a2.append b2,λ Q q=>⟨l,l',xs,ys,rfl,rfl,s _ _ a1,s _ _ b1,by rw[a2.len,b2.len];exact h,q⟩⟩
   ·have hz:none=some z:=(if_neg h).symm.trans hf
    cases hz
  | _=>cases hf
 | _=>cases hf
theorem DqA.flat {K:PySem.W.Frag}{F:Hp}{vs:List V}{ds:List D}(h:DqA K F vs ds):∀ k:Nat,DqA K F (List.replicate k vs).flatten (List.replicate k ds).flatten
 | 0=>.nil
 | k+1=>by
  rw[List.replicate_succ,List.replicate_succ,List.flatten_cons,List.flatten_cons]
  exact h.append (h.flat k)
theorem adp {K:PySem.W.Frag}:Leaf2S K rRep dMulL:=by
 intro F H x y d e z s hx hy hf
 cases hx with
 | lst a1 a2 =>
  cases hy with
  | int k =>
   rename_i l xs ds
   by_cases h:repOk ds.length k=true
   ·have hz:some (S.ol (List.replicate k.toNat ds).flatten)=some z:=(if_pos h).symm.trans hf
    cases hz
    obtain⟨h1,h2,h3⟩:=of_decide_eq_true h
    exact .inr ⟨_,_,rfl,a2.flat _,λ Q q=>⟨l,k,xs,rfl,rfl,s _ _ a1,h1,h2,by rw[a2.len];exact h3,q⟩⟩
   ·have hz:none=some z:=(if_neg h).symm.trans hf
    cases hz
  | _=>cases hf
 | _=>cases hf
variable {a b:Expr}{ga gb:LS->R D}{pos:Pos}
theorem bO (ha:JD c n1 a ga)(hb:JD c n2 b gb):JE c (n1&&n2) (.BinOp a .Add b pos) (gOp dAdd ga gb):=by
 obtain⟨ta,p1,q1⟩:=ha;obtain⟨tb,p2,q2⟩:=hb;exact⟨_,pe_op (op_add.or (op_add_str.or op_cat)) p1 p2,adm (ali.lift.or (alj.lift.or ado)) q1 q2⟩
theorem aig (ha:JD c n1 a ga)(hb:JD c n2 b gb):JE c (n1&&n2) (.BinOp a .Mult b pos) (gOp dMul ga gb):=by
 obtain⟨ta,p1,q1⟩:=ha;obtain⟨tb,p2,q2⟩:=hb;exact⟨_,pe_op (op_mul.or op_rep) p1 p2,adm ((leaf_int (gv:=λ i j=>.int (i * j)) (λ i j H Q hc q=>⟨i,j,rfl,rfl,aga hc,q⟩) λ _ _ _=>.int _:uQ c.X.K (rI CMul λ i j=>.int (i * j)) dMulI).lift.or adp) q1 q2⟩
theorem adq {op:Operator}{r:R2}{f:D->D->Option D}(ho:OpR c.X (binaryOp op) r)(lf:uQ c.X.K r f)(ha:JD c n1 a ga)(hb:JD c n2 b gb):JD c (n1&&n2) (.BinOp a op b pos) (gOp f ga gb):=by
 obtain⟨ta,p1,q1⟩:=ha;obtain⟨tb,p2,q2⟩:=hb;exact⟨_,pe_op ho p1 p2,aif lf q1 q2⟩
theorem wI (ha:JD c n1 a ga)(hb:JD c n2 b gb):JD c (n1&&n2) (.BinOp a .Mod b pos) (gOp dMod ga gb) :=
 adq op_mod (leaf_int (gv:=λ i j=>.int (i % j)) (λ i j H Q hc q=>⟨i,j,rfl,rfl,of_decide_eq_true hc,q⟩) λ _ _ _=>.int _) ha hb
theorem adt (ha:JD c n1 a ga)(hb:JD c n2 b gb):JD c (n1&&n2) (.BinOp a .FloorDiv b pos) (gOp dDiv ga gb) :=
 adq op_fdiv (leaf_int (gv:=λ i j=>.int (i / j)) (λ i j H Q hc q=>⟨i,j,rfl,rfl,agb hc,q⟩) λ _ _ _=>.int _) ha hb
theorem alk (ha:JD c n1 a ga)(hb:JD c n2 b gb):JD c (n1&&n2) (.BinOp a .Pow b pos) (gOp dPow ga gb) :=
 adq op_pow (leaf_int (gv:=λ i j=>.int (i ^ j.toNat)) (λ i j H Q hc q=>⟨i,j,rfl,rfl,agc hc,q⟩) λ _ _ _=>.int _) ha hb
def gUn {α:Type}(f:D->Option α)(a:LS->R D):LS->R α:=λ L=>(a L).bind λ d L1=>ofO (f d) L1
def dCmp (f:Int->Int->Bool)(g:Str->Str->Bool):D->D->Option D
 | .int i,.int j=>some (.bool (f i j))
 | .str x,.str y=>some (.bool (g x y))
 | _,_=>none
def dLt:D->D->Option D:=dCmp (λ i j=>decide (i < j)) λ x y=>decide (x.cps.toList < y.cps.toList)
def dLe:D->D->Option D:=dCmp (λ i j=>decide (i<=j)) λ x y=>!decide (y.cps.toList < x.cps.toList)
def dGt:D->D->Option D:=dCmp (λ i j=>decide (j < i)) λ x y=>decide (y.cps.toList < x.cps.toList)
def dGe:D->D->Option D:=dCmp (λ i j=>decide (j<=i)) λ x y=>!decide (x.cps.toList < y.cps.toList)
theorem ano {K:PySem.W.Frag}{f:Int->Int->Bool}{g:Str->Str->Bool}:uQ K (λ x y H Q=>rI0 (λ i j=>.bl (f i j)) x y H Q∨∃ i j,x=.str i/\y=.str j/\Q (.bl (g i j)) H) (dCmp f g):=by
 intro F H x y d e z _ hx hy hf
 cases hx with
 | int i =>
  cases hy with
  | int j =>
   cases hf
   exact⟨_,.bl _,λ Q q=>.inl ⟨i,j,rfl,rfl,q⟩⟩
  | _=>cases hf
 | str i =>
  cases hy with
  | str j =>
   cases hf
   exact⟨_,.bl _,λ Q q=>.inr ⟨i,j,rfl,rfl,q⟩⟩
  | _=>cases hf
 | _=>cases hf
def scalD:D->D->Bool
 | .none,.none=>true
 | .none,.int _=>true
 | .int _,.none=>true
 | .none,.bool _=>true
 | .bool _,.none=>true
 | .none,.str _=>true
 | .str _,.none=>true
 | .int _,.int _=>true
 | .bool _,.bool _=>true
 | .str _,.str _=>true
 | .int _,.str _=>true
 | .str _,.int _=>true
 | .bool _,.str _=>true
 | .str _,.bool _=>true
 | _,_=>false
def eqOk (d e:D):Prop:=scalD d e=true∨(SeqAt.shaped d=true/\SeqAt.shaped e=true)
instance (d e:D):Decidable (eqOk d e):=inferInstanceAs (Decidable (_∨_))
def dEq:D->D->Option D:=λ d e=>if eqOk d e then some (.bool (d.eqv e)) else none
def dNe:D->D->Option D:=λ d e=>if eqOk d e then some (.bool (!d.eqv e)) else none
theorem adu {K:PySem.W.Frag}{F:Hp}{x y:V}{d e:D}(hx:Dq K F x d)(hy:Dq K F y e)(h:scalD d e=true):scal x y=true/\d.eqv e=decide (x=y):=by
 cases hx<;>cases hy<;>first
  | (exfalso;exact Bool.noConfusion h)
  | (refine⟨rfl,?_⟩;simp only[PyData.eqv];first | (symm;simp;done) | (rw[Bool.beq_eq_decide_eq];apply decide_eq_decide.mpr;constructor;(intro z;rw[z]);(intro z;injection z)))
def aiT:R2:=λ x y H Q=>rIsB x y H Q∨(x=.non/\(∃ b:Bool,y=.bl b)/\Q (.bl false) H)
theorem age {X:Cx}:OpR X (compareOp .Is) aiT:=by
 intro pins s σ H x y v u Q I rx ry h;rcases h with h | ⟨rfl,⟨b,rfl⟩,q⟩
 ·exact op_isBl pins s σ H x y v u Q I rx ry h
 ·cases rx
  cases (show u=Value.bool b from ry)
  exact wpAny_is_other rfl (λ z=>nomatch z) ⟨.bl false,H,I,rfl,q⟩
def dIs:D->D->Option D
 | .bool a,.bool b=>some (.bool (decide (a=b)))
 | .none,.bool _=>some (.bool false)
 | .none,.none=>some (.bool true)
 | _,.none=>some (.bool false)
 | _,_=>none
theorem aiU {K:PySem.W.Frag}:uQ K (λ x y H Q=>(y=.non/\Q (.bl (decide (x=.non))) H)∨aiT x y H Q) dIs:=by
 intro F H x y d e z s hx hy hf
 cases hy with
 | non=>cases hx<;>(cases hf;exact⟨_,.bl _,λ Q q=>.inl ⟨rfl,q⟩⟩)
 | bl b =>
  cases hx with
  | bl a =>
   cases hf
   exact⟨_,.bl _,λ Q q=>.inr (.inl ⟨a,b,rfl,rfl,q⟩)⟩
  | non =>
   cases hf
   exact⟨_,.bl _,λ Q q=>.inr (.inr ⟨rfl,⟨b,rfl⟩,q⟩)⟩
  | _=>cases hf
 | _=>cases hx<;>cases hf
def flatD:D->Bool
 | .none=>true
 | .bool _=>true
 | .int _=>true
 | .str _=>true
 | _=>false
def inOk (d:D)(ds:List D):Prop:=(flatD d=true/\ds.all flatD=true)∨(SeqAt.shaped d=true/\SeqAt.shaped (.list ds)=true)
instance (d:D)(ds:List D):Decidable (inOk d ds):=inferInstanceAs (Decidable (_∨_))
def dInB (d e:D):Option Bool:=match e with
 | .list ds=>if inOk d ds then some (ds.any λ z=>z.eqv d) else none
 | .tuple ds=>if flatD d=true/\ds.all flatD=true then some (ds.any λ z=>z.eqv d) else none
 | .str y=>(match d with
  | .str x=>if x.length=1 then some (decide (x.cps.getD 0 0∈y.cps.toList)) else none
  | _=>none)
 | _=>none
def dIn:D->D->Option D:=λ d e=>(dInB d e).map .bool
def dNotIn:D->D->Option D:=λ d e=>(dInB d e).map λ b=>.bool (!b)
theorem uR {K:PySem.W.Frag}{F:Hp}{v:V}{d:D}(h:Dq K F v d)(hd:flatD d=true):flatV v=true:=by
 cases h<;>first | rfl | cases hd
theorem qY {K:PySem.W.Frag}{F:Hp}:∀ {vs:List V} {ds:List D},DqA K F vs ds->ds.all flatD=true->vs.all flatV=true
 | _,_,.nil,_=>rfl
 | _,_,.cons a b,h=>by
  rw[List.all_cons,Bool.and_eq_true]at h ⊢
  exact⟨uR a h.1,qY b h.2⟩
theorem aiV {K:PySem.W.Frag}{F:Hp}{v u:V}{d e:D}(h:Dq K F v d)(h':Dq K F u e)(hd:flatD d=true)(he:flatD e=true):eqV v u=d.eqv e:=by
 cases h<;>cases h'<;>first
  | rfl
  | (exfalso;exact Bool.noConfusion hd)
  | (exfalso;exact Bool.noConfusion he)
  | simp only[eqV,PyData.eqv]
theorem uU {K:PySem.W.Frag}{F:Hp}{v:V}{d:D}(h:Dq K F v d)(hd:flatD d=true):∀ {vs:List V} {ds:List D},DqA K F vs ds->ds.all flatD=true->inV v vs=ds.any λ z=>z.eqv d
 | _,_,.nil,_=>rfl
 | _,_,.cons a b,hh=>by
  rw[List.all_cons,Bool.and_eq_true]at hh
  have:=uU h hd b hh.2
  unfold inV at this ⊢
  rw[List.any_cons,List.any_cons,this,aiV a h hh.1 hd]
theorem one_sign {x:Str}(h:x.length=1):x=⟨#[x.cps.getD 0 0]⟩:=by
 obtain⟨cps⟩:=x
 have h':cps.size=1:=h
 congr 1
 apply Array.ext
 ·simp[h']
 ·intro i h1 h2
  have:i=0:=by
   simp at h2
   omega
  subst this
  simp[Array.getD,h']
theorem adw {K:PySem.W.Frag}{F H:Hp}{x y:V}{d e:D}{z:Bool}(s:Same F H)(hx:Dq K F x d)(hy:Dq K F y e)(hf:dInB d e=some z)(neg:Bool)(Q:VK)(q:Q (.bl (if neg then !z else z)) H) :
  (∃ (c:Nat) (w:Str),x=.str ⟨#[c]⟩/\y=.str w/\Q (.bl (if neg then !decide (c∈w.cps.toList) else decide (c∈w.cps.toList))) H) ∨
   (∃ d ds,Dp K H x d/\Dp K H y (.list ds)/\SeqAt.shaped d=true/\SeqAt.shaped (.list ds)=true/\Q (.bl (if neg then !ds.any (λ z=>PyData.eqv z d) else ds.any λ z=>PyData.eqv z d)) H)∨rIn K neg x y H Q:=by
 cases hy with
 | lst a1 a2 =>
  rename_i l vs ds
  have hf:(if inOk d ds then some (ds.any λ z=>z.eqv d) else none)=some z:=hf
  by_cases h:inOk d ds
  ·rw[if_pos h]at hf
   cases hf
   rcases h with h | h
   ·rw[←uU hx h.1 a2 h.2]at q
    exact .inr (.inr ⟨l,vs,rfl,.inl (.of (s _ _ a1)),uR hx h.1,qY a2 h.2,q⟩)
   ·exact .inr (.inl ⟨d,ds,(hx.up s).dp,((Dq.lst a1 a2).up s).dp,h.1,h.2,q⟩)
  ·rw[if_neg h]at hf
   cases hf
 | tup a1 a2 =>
  rename_i l vs ds
  have hf:(if flatD d=true/\ds.all flatD=true then some (ds.any λ z=>z.eqv d) else none)=some z:=hf
  by_cases h:flatD d=true/\ds.all flatD=true
  ·rw[if_pos h]at hf
   cases hf
   rw[←uU hx h.1 a2 h.2]at q
   exact .inr (.inr ⟨l,vs,rfl,.inr (sqt_same s a1),uR hx h.1,qY a2 h.2,q⟩)
  ·rw[if_neg h]at hf
   cases hf
 | str w =>
  cases hx with
  | str x =>
   have hf':(if x.length=1 then some (decide (x.cps.getD 0 0∈w.cps.toList)) else none)=some z:=hf
   by_cases h:x.length=1
   ·rw[if_pos h]at hf'
    cases hf'
    exact .inl ⟨_,w,by rw[←one_sign h],rfl,q⟩
   ·rw[if_neg h]at hf'
    cases hf'
  | _=>cases hf
 | _=>cases hx<;>cases hf
def rInAny (K:PySem.W.Frag):R2:=λ x y H Q=>(∃ (c:Nat) (z:Str),x=.str ⟨#[c]⟩/\y=.str z/\Q (.bl (decide (c∈z.cps.toList))) H)∨rInD K x y H Q∨rIn K false x y H Q
def adx (K:PySem.W.Frag):R2:=λ x y H Q=>(∃ (c:Nat) (z:Str),x=.str ⟨#[c]⟩/\y=.str z/\Q (.bl (!decide (c∈z.cps.toList))) H)∨rNotInD K x y H Q∨rIn K true x y H Q
variable {k:Nat}
theorem aih {A:Around}(hr:Room k A):A.units+65 < cLine:=by have:=hr.un;omega
def asB:D->LS->R Bool
 | .bool b,L=>.ok b L
 | _,_=>.stuck
def gB (g:LS->R D):LS->R Bool:=λ L=>(g L).bind asB
theorem agf {g:LS->R D}{t:TE}(h:Jdg c n g BD t):Jdg c n (gB g) BB (λ σ H Q=>t σ H λ x H'=>∃ k,x=.bl k/\Q k H'):=by
 intro G F ow σ H L Rr;refine(h G F ow σ H L Rr).bind1 (t2:=λ x H' Q=>∃ k,x=.bl k/\Q k H') λ d L1 v H1 F1 ow1 _ _ _ R1 b1=>?_
 cases b1 with
 | bl b=>exact(Post.val (a:=b) (b:=b) (B:=BB c.X.K) R1 rfl).imp λ Q q=>⟨b,rfl,q⟩
 | _=>trivial
theorem uV {e:Expr}{g:LS->R D}(h:JD c n e g)(he:∀ whole,isTrue e c.X.env whole=(do let v ←whole;standAt e.pos;holding [v] (truthy v)):=by intro _;rfl):JT c n e (gB g):=by
 obtain⟨t,p,q⟩:=h;exact⟨_,pt_val p he,agf q⟩
variable {g1 g2:LS->R Bool}{rest:List Expr}
def gAnd (a b:LS->R Bool):LS->R Bool:=λ L=>(a L).bind λ x L1=>if x=true then b L1 else .ok false L1
def gOr (a b:LS->R Bool):LS->R Bool:=λ L=>(a L).bind λ x L1=>if x=true then .ok true L1 else b L1
def gNot (a:LS->R Bool):LS->R Bool:=λ L=>(a L).bind λ x L1=>.ok (!x) L1
theorem uW (ha:JT c n a g1):JW c n (.BoolOp .And [a] pos) g1:=by
 obtain⟨t,p,q⟩:=ha;exact⟨_,pw_and1 p,q⟩
theorem qZ (ha:JT c n a g1):JW c n (.BoolOp .Or [a] pos) g1:=by
 obtain⟨t,p,q⟩:=ha;exact⟨_,pw_or1 p,q⟩
theorem zu (ha:JT c n1 a g1)(hb:JW c n2 (.BoolOp .And (b::rest) pos) g2):JW c (n1&&n2) (.BoolOp .And (a::b::rest) pos) (gAnd g1 g2):=by
 obtain⟨t,p,q⟩:=ha;obtain⟨t',p',q'⟩:=hb;refine⟨_,pw_and p p',λ G F ow σ H L Rr=>(q G F ow σ H L Rr).bind (t2:=λ x H1 Q=>if x=true then t' σ H1 Q else Q false H1) λ x L1 v H1 F1 ow1 _ _ _ R1 b1=>?_⟩
 cases b1
 cases x with
 | true=>exact q' G F1 ow1 σ H1 L1 R1
 | false=>exact Post.val (b:=false) (B:=BB c.X.K) R1 rfl
theorem sY (ha:JT c n1 a g1)(hb:JW c n2 (.BoolOp .Or (b::rest) pos) g2):JW c (n1&&n2) (.BoolOp .Or (a::b::rest) pos) (gOr g1 g2):=by
 obtain⟨t,p,q⟩:=ha;obtain⟨t',p',q'⟩:=hb;refine⟨_,pw_or p p',λ G F ow σ H L Rr=>(q G F ow σ H L Rr).bind (t2:=λ x H1 Q=>if x=true then Q true H1 else t' σ H1 Q) λ x L1 v H1 F1 ow1 _ _ _ R1 b1=>?_⟩
 cases b1
 cases x with
 | false=>exact q' G F1 ow1 σ H1 L1 R1
 | true=>exact Post.val (b:=true) (B:=BB c.X.K) R1 rfl
theorem abI {e:Expr}(h:JW c n e g1):JT c n e g1:=by
 obtain⟨t,p,q⟩:=h;exact⟨_,p.pt,q⟩
theorem zA (h:JT c n a g1):JT c n (.UnaryOp .Not a pos) (gNot g1):=by
 obtain⟨t,p,q⟩:=h;refine⟨_,pt_not p,λ G F ow σ H L Rr=>(q G F ow σ H L Rr).bind1 (t2:=λ x H1 Q=>Q (!x) H1) λ x L1 v H1 F1 ow1 _ _ _ R1 b1=>?_⟩
 cases b1
 exact Post.val (b:=!x) (B:=BB c.X.K) R1 rfl
def gAndV (a b:LS->R D):LS->R D:=λ L=>(a L).bind λ d L1=>match d with
 | .bool x=>if x=true then b L1 else .ok (.bool false) L1
 | _=>.stuck
def gOrV (a b:LS->R D):LS->R D:=λ L=>(a L).bind λ d L1=>match d with
 | .bool x=>if x=true then .ok (.bool true) L1 else b L1
 | _=>.stuck
def dNot:D->Option D
 | .bool b=>some (.bool (!b))
 | _=>none
theorem zB {op}(h:JD c n a ga):JD c n (.BoolOp op [a] pos) ga:=by
 obtain⟨t,p,q⟩:=h;exact⟨_,pe_one p,q⟩
theorem zE (ha:JD c n1 a ga)(hb:JD c n2 (.BoolOp .And (b::rest) pos) gb):JD c (n1&&n2) (.BoolOp .And (a::b::rest) pos) (gAndV ga gb):=by
 obtain⟨t,p,q⟩:=ha;obtain⟨t',p',q'⟩:=hb;refine⟨_,pe_and p p',λ G F ow σ H L Rr=>(q G F ow σ H L Rr).bind (t2:=λ x H1 Q=>∃ k,x=.bl k/\if k=true then t' σ H1 Q else Q (.bl false) H1) λ d L1 v H1 F1 ow1 _ _ _ R1 b1=>?_⟩
 cases b1 with
 | bl x =>
  cases x with
  | true=>exact(q' G F1 ow1 σ H1 L1 R1).imp λ Q h=>⟨true,rfl,h⟩
  | false=>exact(Post.val (b:=V.bl false) (B:=BD c.X.K) R1 (.bl false)).imp λ Q h=>⟨false,rfl,h⟩
 | _=>trivial
theorem alm (h:JD c n a ga):JD c n (.UnaryOp .Not a pos) (gUn dNot ga):=by
 obtain⟨t,p,q⟩:=h;refine⟨_,pe_not p,λ G F ow σ H L Rr=>(q G F ow σ H L Rr).bind1 (t2:=λ(x:V) H1 (Q:VK)=>∃ k,x=V.bl k/\Q (V.bl (!k)) H1) λ x L1 v H1 F1 ow1 _ _ _ R1 b1=>?_⟩
 cases b1 with
 | bl x=>exact(Post.val (a:=PyData.bool (!x)) (b:=V.bl (!x)) (B:=BD c.X.K) R1 (.bl _)).imp λ Q h=>⟨x,rfl,h⟩
 | _=>trivial
def gIfE {α:Type}(t:LS->R Bool)(a b:LS->R α):LS->R α:=λ L=>(t L).bind λ x L1=>if x=true then a L1 else b L1
end
section
variable {c:Ct}{n n1 n2 n3:Bool}{a b:Expr}{ga gb:LS->R D}{pos:Pos}
def dIx (d e:D):Option D:=match e with
 | .int i=>(match d with
  | .list xs=>atI xs i
  | .tuple xs=>atI xs i
  | .str s=>if s.length<=sizeLine then(atI s.cps.toList i).map λ k=>.str ⟨#[k]⟩ else none
  | _=>none)
 | _=>none
theorem DqA.at {K:PySem.W.Frag}{F:Hp}{vs:List V}{ds:List D}{i:Int}{z:D}(h:DqA K F vs ds)(e:atI ds i=some z):∃ v,atI vs i=some v/\Dq K F v z:=by
 unfold atI at e ⊢
 rw[h.len]
 cases hj:ixN ds.length i with
 | none=>rw[hj]at e;cases e
 | some j =>
  rw[hj]at e
  exact h.get e
theorem ady {K:PySem.W.Frag}{F H:Hp}{ow:Addr->Option Path}{x y:V}{d e z:D}(s:Same F H)(hx:BV K F H ow d x)(hy:Dq K F y e)(hf:dIx d e=some z):∃ v,Dq K F v z/\∀ Q:VK,Q v H->rIx K x y H Q:=by
 cases hy with
 | int i =>
  have seq:∀ {l:Addr} {vs:List V} {ds:List D},x=.ref l->d=.list ds->SqL K H l vs->DqA K F vs ds->∃ v,Dq K F v z/\∀ Q:VK,Q v H->rIx K x (.int i) H Q:=λ {l vs ds} hl hd h1 h2=>by
   subst hl hd
   obtain⟨v,h3,h4⟩:=h2.at (show atI ds i=some z from hf)
   exact⟨v,h4,λ Q q=>.inl ⟨l,vs,i,v,rfl,rfl,h1,h3,q⟩⟩
  rcases hx with hx | ⟨l,vs,ds,rfl,rfl,h1,h2⟩
  ·cases hx with
   | lst h1 h2=>exact seq rfl rfl (.of (s _ _ h1)) h2
   | tup h1 h2 =>
    rename_i l vs ds
    obtain⟨v,h3,h4⟩:=h2.at (show atI ds i=some z from hf)
    exact⟨v,h4,λ Q q=>.inr (.inl ⟨l,vs,i,v,rfl,rfl,sqt_same s h1,h3,q⟩)⟩
   | str w =>
    have hf:(if w.length<=sizeLine then(atI w.cps.toList i).map λ k=>PyData.str ⟨#[k]⟩ else none)=some z:=hf
    by_cases hw:w.length<=sizeLine
    ·rw[if_pos hw]at hf
     obtain⟨k,hk,rfl⟩:=Option.map_eq_some_iff.mp hf
     exact⟨_,.str _,λ Q q=>.inr (.inr ⟨w,i,k,rfl,rfl,hw,hk,q⟩)⟩
    ·rw[if_neg hw]at hf
     cases hf
   | _=>cases hf
  ·exact seq rfl rfl h1 h2
 | _=>cases hf
theorem aiW {K:PySem.W.Frag}:uQ K (rIx K) dIx:=λ F H x y d e z s hx hy hf=>ady (ow:=λ _=>none) s (.inl hx) hy hf
theorem agg (ha:JD c n1 a ga)(hb:JD c n2 b gb)(hs:PlainIx b:=by exact λ _ _=>rfl):JD c (n1&&n2) (.Subscript a b pos) (gOp dIx ga gb):=by
 obtain⟨ta,p1,q1⟩:=ha;obtain⟨tb,p2,q2⟩:=hb;exact⟨_,pe_ix ix_seq p1 p2 hs,aif aiW q1 q2⟩
theorem BV.up {K:PySem.W.Frag}{F F' H H':Hp}{ow ow':Addr->Option Path}{d:D}{v:V}(h:BV K F H ow d v)(e:Same F F')(e2:Same H H'):BV K F' H' ow' d v:=by
 rcases h with h | ⟨l,vs,ds,h1,h2,h3,h4⟩
 ·exact .inl (h.up e)
 ·exact .inr ⟨l,vs,ds,h1,h2,sql_same e2 h3,h4.up e⟩
def gIxP (i:Nat)(gb:LS->R D):LS->R D:=λ L=>match L[i]? with
 | some (some _)=>(gb L).bind λ e L1=>(gPeek i L1).bind λ d L2=>ofO (dIx d e) L2
 | _=>.stuck
theorem aiX {G F H:Hp}{ow:Addr->Option Path}{σ:L2.St}{L L':LS}{i:Nat}{d:D}{v:V}(Rr:c.Rl G F ow σ H L)(hv:σ[i]?=some (some v))(h:gPeek i L=.ok d L'):L'=L/\BV c.X.K F H ow d v:=by
 unfold gPeek at h
 cases hL:L[i]? with
 | none=>rw[hL]at h;cases h
 | some o =>
  rw[hL]at h
  cases o with
  | none=>cases h
  | some s =>
   obtain⟨u,hu,rs⟩:=Rr.sl i s hL;rw[hv]at hu
   cases hu
   have hb:=adl Rr.exF Rr.exB rs
   cases s<;>cases h<;>exact⟨rfl,hb⟩
theorem cV (i:Nat){x:Str}{p:Pos}(ha:PE c.X (.Name x p) (tVar i))(hb:JD c n b gb)(hs:PlainIx b:=by exact λ _ _=>rfl):JD c n (.Subscript (.Name x p) b pos) (gIxP i gb):=by
 obtain⟨tb,p2,q2⟩:=hb;refine⟨_,pe_ix ix_seq ha p2 hs,λ G F ow σ H L Rr=>?_⟩;unfold gIxP
 cases hL:L[i]? with
 | none=>trivial
 | some o =>
  cases o with
  | none=>trivial
  | some s =>
   obtain⟨v,hv,rs⟩:=Rr.sl i s hL;refine((q2 G F ow σ H L Rr).bind1 (t2:=λ y H2 Q=>rIx c.X.K v y H2 Q) λ e L1 u H1 F1 ow1 _ _ _ R1 b1=>?_).imp λ Q q=>⟨v,hv,q⟩
   cases hp:gPeek i L1 with
   | stuck=>trivial
   | err k L2 =>
    exfalso
    unfold gPeek at hp
    split at hp<;>cases hp
   | ok d L2 =>
    obtain⟨rfl,hb⟩:=aiX R1 hv hp;rw[R.bind_ok]
    cases hf:dIx d e with
    | none=>trivial
    | some z =>
     obtain⟨w,hw,q⟩:=ady R1.exF hb b1 hf;exact(Post.val R1 hw).imp q
def cutD (xs:List D)(lo hi:Option Int):List D:=(xs.drop (HT.sIx xs.length 0 lo)).take (HT.sIx xs.length xs.length hi - HT.sIx xs.length 0 lo)
theorem DqA.cut {K:PySem.W.Frag}{F:Hp}{vs:List V}{ds:List D}(h:DqA K F vs ds)(lo hi:Option Int):DqA K F (cutV vs lo hi) (cutD ds lo hi):=by
 unfold cutV cutD
 rw[h.len]
 exact(h.drop _).take _
def dSl (d:D)(lo hi:Option Int):Option S:=match d with
 | .list xs=>some (.ol (cutD xs lo hi))
 | .str s=>if s.length<=sizeLine then some (.d (.str (cutS s lo hi))) else none
 | .tuple xs=>if HT.sIx xs.length 0 lo=0/\HT.sIx xs.length xs.length hi=xs.length then none else some (.d (.tuple (cutD xs lo hi)))
 | _=>none
def BO:PySem.W.Frag->Hp->Hp->(Addr->Option Path)->Option Int->Option Int->Prop:=λ _ _ _ _ x y=>y=x
def JO (c:Ct)(n:Bool)(e:Option Expr)(g:LS->R (Option Int)):Prop:=∃ t,PO c.X e t/\Jdg c n g BO t
def gNo:LS->R (Option Int):=λ L=>.ok none L
def asI:D->LS->R (Option Int)
 | .int i,L=>.ok (some i) L
 | _,_=>.stuck
def gSo (g:LS->R D):LS->R (Option Int):=λ L=>(g L).bind asI
theorem j6:JO c true none gNo:=⟨_,po_none,λ G F ow σ H L Rr=>Post.val (B:=BO c.X.K) Rr rfl⟩
theorem ji (h:JD c n a ga):JO c n (some a) (gSo ga):=by
 obtain⟨t,p,q⟩:=h;refine⟨_,po_some p,λ G F ow σ H L Rr=>(q G F ow σ H L Rr).bind1 (t2:=λ(x:V) H1 (Q:Option Int->Hp->Prop)=>∃ i,x=V.int i/\Q (some i) H1) λ d L1 v H1 F1 ow1 _ _ _ R1 b1=>?_⟩
 cases b1 with
 | int i=>exact(Post.val (a:=some i) (b:=some i) (B:=BO c.X.K) R1 rfl).imp λ Q q=>⟨i,rfl,q⟩
 | _=>trivial
def rSlAny (K:PySem.W.Frag):V->Option Int->Option Int->Hp->VK->Prop:=λ x lo hi H Q=>rSlL K x lo hi H Q∨rSlS x lo hi H Q∨rSlT K x lo hi H Q
theorem adz {G F H:Hp}{ow:Addr->Option Path}{σ:L2.St}{L:LS}{d:D}{v:V}{lo hi:Option Int}(Rr:c.Rl G F ow σ H L)(hb:BV c.X.K F H ow d v):Post c G true F H σ (ofO (dSl d lo hi) L) (BE c.ca c.X.K) (rSlAny c.X.K v lo hi H):=by
 have seq:∀ {l:Addr} {vs:List V} {ds:List D},v=.ref l->d=.list ds->SqL c.X.K H l vs->DqA c.X.K F vs ds->Post c G true F H σ (ofO (dSl d lo hi) L) (BE c.ca c.X.K) (rSlAny c.X.K v lo hi H):=λ {l vs ds} e1 e2 h1 h2=>by
  subst e1 e2
  exact(nH Rr (h2.cut lo hi)).imp λ Q q=>.inl ⟨l,vs,rfl,h1,q⟩
 rcases hb with hb | ⟨l,vs,ds,rfl,rfl,h1,h2⟩
 ·cases hb with
  | lst h1 h2=>exact seq rfl rfl (.of (Rr.exF _ _ h1)) h2
  | str w =>
   show Post c G true F H σ (ofO (if w.length<=sizeLine then some (S.d (.str (cutS w lo hi))) else none) L) _ _
   by_cases hw:w.length<=sizeLine
   ·rw[if_pos hw];exact(Post.val (a:=S.d (.str (cutS w lo hi))) (B:=BE c.ca c.X.K) Rr (RS.d (.str _))).imp λ Q q=>.inr (.inl ⟨w,rfl,hw,q⟩)
   ·rw[if_neg hw]
    trivial
  | tup h1 h2 =>
   rename_i l vs ds
   show Post c G true F H σ (ofO (if HT.sIx ds.length 0 lo=0/\HT.sIx ds.length ds.length hi=ds.length then none else some (S.d (.tuple (cutD ds lo hi)))) L) _ _
   by_cases hw:HT.sIx ds.length 0 lo=0/\HT.sIx ds.length ds.length hi=ds.length
   ·rw[if_pos hw]
    trivial
   ·rw[if_neg hw];intro Q q;refine .inr (.inr ⟨l,vs,rfl,sqt_same Rr.exF h1,by rw[h2.len];exact hw,λ p hp=>?_⟩);obtain⟨e1,e,r'⟩:=Rr.newF (o:=.tup (cutV vs lo hi)) hp;exact q _ _ _ ow e1 (λ _=>e) r' (.d (.tup upd_same ((h2.cut lo hi).up e1)))
  | _=>trivial
 ·exact seq rfl rfl h1 h2
def gSl (ga:LS->R D)(lo hi:LS->R (Option Int)):LS->R S:=λ L=>(ga L).bind λ d L1=>(lo L1).bind λ l L2=>(hi L2).bind λ u L3=>ofO (dSl d l u) L3
variable {lo hi:Option Expr}{gl gh:LS->R (Option Int)}{p2:Pos}
theorem anC (ha:JD c n1 a ga)(hl:JO c n2 lo gl)(hh:JO c n3 hi gh):JE c (n1&&(n2&&n3)) (.Subscript a (.Slice lo hi none p2) pos) (gSl ga gl gh):=by
 obtain⟨ta,pa,qa⟩:=ha;obtain⟨tl,pl,ql⟩:=hl;obtain⟨th,ph,qh⟩:=hh;refine⟨_,pe_slice (sl_list.or (sl_str.or sl_tup)) pa pl ph,λ G F ow σ H L Rr=>?_⟩;refine(qa G F ow σ H L Rr).bind (t2:=λ v H1 Q=>tl σ H1 λ l H2=>th σ H2 λ u H3=>rSlAny c.X.K v l u H3 Q) λ d L1 v H1 F1 ow1 _ _ _ R1 b1=>?_;refine(ql G F1 ow1 σ H1 L1 R1).bind (t2:=λ l H2 Q=>th σ H2 λ u H3=>rSlAny c.X.K v l u H3 Q) λ l L2 l' H2 F2 ow2 _ e2 _ R2 b2=>?_;refine(qh G F2 ow2 σ H2 L2 R2).bind1 (t2:=λ u H3 Q=>rSlAny c.X.K v l' u H3 Q) λ u L3 u' H3 F3 ow3 _ e3 _ R3 b3=>?_
 cases b2
 cases b3
 exact adz R3 (.inl ((b1.up e2).up e3))
theorem fG (ha:JV c n1 a ga)(hl:JO c true lo gl)(hh:JO c true hi gh):JE c n1 (.Subscript a (.Slice lo hi none p2) pos) (gSl ga gl gh):=by
 obtain⟨ta,pa,qa⟩:=ha;obtain⟨tl,pl,ql⟩:=hl;obtain⟨th,ph,qh⟩:=hh;refine⟨_,pe_slice (sl_list.or (sl_str.or sl_tup)) pa pl ph,λ G F ow σ H L Rr=>?_⟩;refine(qa G F ow σ H L Rr).bind1 (t2:=λ v H1 Q=>tl σ H1 λ l H2=>th σ H2 λ u H3=>rSlAny c.X.K v l u H3 Q) λ d L1 v H1 F1 ow1 _ _ _ R1 b1=>?_;refine(ql G F1 ow1 σ H1 L1 R1).bind1 (t2:=λ l H2 Q=>th σ H2 λ u H3=>rSlAny c.X.K v l u H3 Q) λ l L2 l' H2 F2 ow2 _ e2 s2 R2 b2=>?_;refine(qh G F2 ow2 σ H2 L2 R2).bind1 (t2:=λ u H3 Q=>rSlAny c.X.K v l' u H3 Q) λ u L3 u' H3 F3 ow3 _ e3 s3 R3 b3=>?_
 cases b2
 cases b3
 exact adz R3 (BV.up (BV.up (ow':=ow2) b1 e2 (s2 rfl)) e3 (s3 rfl))
def dLen:D->Option D
 | .list xs=>some (.int xs.length)
 | .tuple xs=>some (.int xs.length)
 | .str s=>if s.length<=sizeLine then some (.int s.length) else none
 | _=>none
theorem uX {α:Type}{ga:LS->R D}{B:PySem.W.Frag->Hp->Hp->(Addr->Option Path)->α->V->Prop}{r:List V->Hp->VK->Prop}{f:D->Option α}{ta:TE}(ha:Jdg c n ga BV ta)
  (lf:∀ {G F H:Hp} {ow:Addr->Option Path} {σ:L2.St} {L:LS} {d:D} {v:V},c.Rl G F ow σ H L->BV c.X.K F H ow d v->Post c G true F H σ (ofO (f d) L) (B c.X.K) (r [v] H)):Jdg c n (gUn f ga) B (tCB r (tCons ta tNil)) :=
 λ G F ow σ H L Rr=>(ha G F ow σ H L Rr).bind1 (t2:=λ v H1 Q=>r [v] H1 Q) λ d L1 v H1 F1 ow1 _ _ _ R1 b1=>lf R1 b1
theorem agh {id:String}{x:Str}{p:Pos}{r:List V->Hp->VK->Prop}{f:D->Option D}(hc:CallR c.X (.builtin id) r)(hg:Gl c.X x)(hm:c.X.mg x=none)(hv:bootBuiltins x=some (.builtin id))(ha:JV c n a ga)
  (lf:∀ {G F H:Hp} {ow:Addr->Option Path} {σ:L2.St} {L:LS} {d:D} {v:V},c.Rl G F ow σ H L->BV c.X.K F H ow d v->Post c G true F H σ (ofO (f d) L) (BD c.X.K) (r [v] H))
  (hn:x≠"__name__":=by decide) (hdb:(x == ("__debug__":Str))=false:=by decide) (hs:starEach [a] c.X.env=(false,eval a c.X.env)::starEach [] c.X.env:=by rfl) (hpl:(backTo pos (starEach [] c.X.env)).any (·.1)=false:=by rfl) :
  JD c n (.Call (.Name x p) [a] [] pos) (gUn f ga):=by
 obtain⟨ta,pa,qa⟩:=ha;exact⟨_,pe_callB hc hg hm hv (pa_cons pa pa_nil hs) hn hdb hs hpl,uX qa lf⟩
theorem acx {T:String}{x:Str}{p:Pos}{r:List V->Hp->VK->Prop}{f:D->Option S}(hc:CallR c.X (.type T) r)(hg:Gl c.X x)(hm:c.X.mg x=none)(hv:bootBuiltins x=some (.type T))(ha:JV c n a ga)
  (lf:∀ {G F H:Hp} {ow:Addr->Option Path} {σ:L2.St} {L:LS} {d:D} {v:V},c.Rl G F ow σ H L->BV c.X.K F H ow d v->Post c G true F H σ (ofO (f d) L) (BE c.ca c.X.K) (r [v] H))
  (hn:x≠"__name__":=by decide) (hdb:(x == ("__debug__":Str))=false:=by decide) (hs:starEach [a] c.X.env=(false,eval a c.X.env)::starEach [] c.X.env:=by rfl) (hpl:(backTo pos (starEach [] c.X.env)).any (·.1)=false:=by rfl) :
  JE c n (.Call (.Name x p) [a] [] pos) (gUn f ga):=by
 obtain⟨ta,pa,qa⟩:=ha;exact⟨_,pe_callTy hc hg hm hv (pa_cons pa pa_nil hs) hn hdb hs hpl,uX qa lf⟩
theorem agi {G F H:Hp}{ow:Addr->Option Path}{σ:L2.St}{L:LS}{d:D}{v:V}(Rr:c.Rl G F ow σ H L)(hb:BV c.X.K F H ow d v) :
  Post c G true F H σ (ofO (dLen d) L) (BD c.X.K) (λ Q=>∃ (x:V) (m:Nat),[v]=[x]/\LenV c.X.K x H m/\Q (.int m) H):=by
 have fin:∀ {m:Nat},LenV c.X.K v H m->Post c G true F H σ (.ok (.int m) L) (BD c.X.K) (λ Q=>∃ (x:V) (m:Nat),[v]=[x]/\LenV c.X.K x H m/\Q (.int m) H):=λ {m} h =>
  (Post.val (a:=PyData.int m) (b:=V.int m) (B:=BD c.X.K) Rr (.int _)).imp λ Q q=>⟨v,m,rfl,h,q⟩
 rcases hb with hb | ⟨l,vs,ds,rfl,rfl,h1,h2⟩
 ·cases hb with
  | lst h1 h2 =>
   have:=fin (.inl ⟨_,.of (Rr.exF _ _ h1),rfl⟩)
   rw[h2.len]at this;exact this
  | tup h1 h2 =>
   have:=fin (.inr ⟨_,sqt_same Rr.exF h1,rfl⟩)
   rw[h2.len]at this;exact this
  | str w =>
   show Post c G true F H σ (ofO (if w.length<=sizeLine then some (PyData.int w.length) else none) L) _ _
   by_cases hw:w.length<=sizeLine
   ·rw[if_pos hw];exact fin (m:=w.length) ⟨hw,rfl⟩
   ·rw[if_neg hw]
    trivial
  | _=>trivial
 ·have:=fin (.inl ⟨_,h1,rfl⟩)
  rw[h2.len]at this;exact this
theorem fj {p:Pos}(hg:Gl c.X "len") (hm:c.X.mg "len"=none) (ha:JV c n a ga) (hs:starEach [a] c.X.env=(false,eval a c.X.env)::starEach [] c.X.env:=by rfl):JD c n (.Call (.Name "len" p) [a] [] pos) (gUn dLen ga) :=
 agh call_len hg hm PySem.boot_len ha (λ Rr hb=>agi Rr hb) (by decide) (by decide) hs rfl
def dList:D->Option S
 | .list xs=>some (.ol xs)
 | .tuple xs=>some (.ol xs)
 | _=>none
theorem adA {G F H:Hp}{ow:Addr->Option Path}{σ:L2.St}{L:LS}{d:D}{v:V}(Rr:c.Rl G F ow σ H L)(hb:BV c.X.K F H ow d v) :
  Post c G true F H σ (ofO (dList d) L) (BE c.ca c.X.K) (λ Q=>∃ p ys,[v]=[V.ref p]/\(SqL c.X.K H p ys∨SqT c.X.K H p ys)/\∀ l,H l=none->Q (.ref l) (upd H l (.lst ys))):=by
 rcases hb with hb | ⟨l,vs,ds,rfl,rfl,h1,h2⟩
 ·cases hb with
  | lst h1 h2=>exact(nH Rr h2).imp λ Q q=>⟨_,_,rfl,.inl (.of (Rr.exF _ _ h1)),q⟩
  | tup h1 h2=>exact(nH Rr h2).imp λ Q q=>⟨_,_,rfl,.inr (sqt_same Rr.exF h1),q⟩
  | _=>trivial
 ·exact(nH Rr h2).imp λ Q q=>⟨_,_,rfl,.inl h1,q⟩
theorem aiY {p:Pos}(hg:Gl c.X "list") (hm:c.X.mg "list"=none) (ha:JV c n a ga) (hs:starEach [a] c.X.env=(false,eval a c.X.env)::starEach [] c.X.env:=by rfl):JE c n (.Call (.Name "list" p) [a] [] pos) (gUn dList ga) :=
 acx call_list_of hg hm (by decide +kernel) ha (λ Rr hb=>adA Rr hb) (by decide) (by decide) hs rfl
def dTy:D->String
 | .none=>"NoneType"
 | .bool _=>"bool"
 | .int _=>"int"
 | .str _=>"str"
 | .list _=>"list"
 | .tuple _=>"tuple"
 | .dict _=>"dict"
def isTy (T:String)(d:D):Option D:=(kitB (dTy d) T).map .bool
def gIsi (T:String)(ga:LS->R D):LS->R D:=gUn (isTy T) ga
theorem anD {K:PySem.W.Frag}{F H:Hp}{ow:Addr->Option Path}{d:D}{v:V}(s:Same F H)(hb:BV K F H ow d v):TyX K H v (.type (dTy d)):=by
 have lst:∀ {l:Addr} {vs:List V},SqL K H l vs->TyX K H (.ref l) (.type "list"):=λ {l vs} h=>by
  rcases h with (h | ⟨o,h⟩) | ⟨o,its,m,h,hc,_⟩
  ·exact .base (.lst h)
  ·exact .base (.frz h)
  ·exact .kList h hc
 rcases hb with hb | ⟨l,vs,ds,rfl,rfl,h1,h2⟩
 ·cases hb with
  | non=>exact .base .non
  | bl b=>exact .base (.bl b)
  | int b=>exact .base (.int b)
  | str b=>exact .base (.str b)
  | lst h1 h2=>exact lst (.of (s _ _ h1))
  | tup h1 h2 =>
   rcases sqt_same s h1 with (h | ⟨o,h⟩) | ⟨o,its,m,h,hc,_⟩
   ·exact .base (.tup h)
   ·exact .fTuple h
   ·exact .kTuple h hc
 ·exact lst h1
theorem oA {T:String}{t:Str}{p p3:Pos}(hg:Gl c.X "isinstance") (hm:c.X.mg "isinstance"=none) (hgT:Gl c.X t) (hmT:c.X.mg t=none) (hvT:bootBuiltins t=some (.type T)) (ha:JV c n a ga) (hnT:t≠"__name__":=by decide) (hdT:(t == ("__debug__":Str))=false:=by decide)
  (hs:starEach [a,.Name t p3] c.X.env=(false,eval a c.X.env)::starEach [.Name t p3] c.X.env:=by rfl) (hs2:starEach [.Name t p3] c.X.env=(false,eval (.Name t p3) c.X.env)::starEach [] c.X.env:=by rfl) (hpl:(backTo pos (starEach [.Name t p3] c.X.env)).any (·.1)=false:=by rfl) :
  JD c n (.Call (.Name "isinstance" p) [a,.Name t p3] [] pos) (gIsi T ga):=by
 obtain⟨ta,pa,qa⟩:=ha;refine⟨_,pe_callB call_isi hg hm (by decide +kernel) (pa_cons pa (pa_cons (pe_bltn (v:=.ty T) hgT hmT hvT rfl hnT hdT) pa_nil hs2) hs) (by decide) (by decide) hs hpl,λ G F ow σ H L Rr=>?_⟩;refine(qa G F ow σ H L Rr).bind1 (t2:=λ v H1 Q=>rIsi c.X.K [v,.ty T] H1 Q) λ d L1 v H1 F1 ow1 _ _ _ R1 b1=>?_;unfold isTy
 cases hk:kitB (dTy d) T with
 | none=>trivial
 | some b=>exact(Post.val (a:=PyData.bool b) (b:=V.bl b) (B:=BD c.X.K) R1 (.bl _)).imp λ Q q=>⟨v,.ty T,_,_,b,rfl,.ty T,anD R1.exF b1,kit_ty hk,q⟩
def strsOf:List D->Option (List Str)
 | []=>some []
 | .str x::r=>(strsOf r).map (x::·)
 | _::_=>none
theorem uY {K:PySem.W.Frag}{F:Hp}:∀ {ds:List D} {vs:List V} {ys:List Str},DqA K F vs ds->strsOf ds=some ys->vs=ys.map V.str
 | [],_,_,.nil,h=>by
  cases h
  rfl
 | d::ds,_,_,.cons a b,h=>by
  cases a with
  | str x =>
   obtain⟨zs,h1,rfl⟩:=Option.map_eq_some_iff.mp (show(strsOf ds).map (x::·)=some _ from h)
   rw[uY b h1]
   rfl
  | _=>cases h
def joinOk (a:Str)(ys:List Str):Bool:=decide ((ys.map (·.length)).sum+ys.length * a.length<=16777216)
def dJoin (d e:D):Option D:=match d,e with
 | .str a,.list ds=>(strsOf ds).bind λ ys=>if joinOk a ys then some (.str (Txt.join a ys)) else none
 | _,_=>none
def gTxt (k:Str->LS->R D):D->LS->R D
 | .str a,L=>k a L
 | _,_=>.stuck
def gJoin (ga gb:LS->R D):LS->R D:=λ L=>(ga L).bind (gTxt λ a L1=>(gb L1).bind λ e L2=>ofO (dJoin (.str a) e) L2)
theorem xR {apos:Pos}(ha:JD c n1 a ga)(hb:JV c n2 b gb)(hs:starEach [b] c.X.env=[(false,eval b c.X.env)]:=by rfl)(hbase:attributeBase a "join" c.X.env (eval a c.X.env)=eval a c.X.env:=by rfl) (hline:(apos.endLine == pos.line)=true:=by rfl) :
  JD c (n1&&n2) (.Call (.Attribute a "join" apos) [b] [] pos) (gJoin ga gb):=by
 obtain⟨ta,pa,qa⟩:=ha;obtain⟨tb,pb,qb⟩:=hb;refine⟨_,pe_join pa pb hs hbase hline,λ G F ow σ H L Rr=>?_⟩;refine(qa G F ow σ H L Rr).bind (t2:=λ(v:V) H1 (Q:VK)=>(∃ a,v=V.str a)/\tb σ H1 λ y H2=>∃ a p,∃ ys:List Str,v=V.str a/\[y]=[V.ref p]/\(SqL c.X.K H2 p (ys.map V.str)∨SqT c.X.K H2 p (ys.map V.str))/\(ys.map (·.length)).sum+ys.length * a.length<=16777216/\Q (V.str (Txt.join a ys)) H2) λ d L1 v H1 F1 ow1 _ _ _ R1 b1=>?_
 cases b1 with
 | str sep =>
  refine Post.imp (t:=λ Q=>tb σ H1 λ y H2=>∃ a p,∃ ys:List Str,V.str sep=V.str a/\[y]=[V.ref p]/\(SqL c.X.K H2 p (ys.map V.str)∨SqT c.X.K H2 p (ys.map V.str))/\(ys.map (·.length)).sum+ys.length * a.length<=16777216/\Q (V.str (Txt.join a ys)) H2) ?_ λ Q q=>⟨⟨sep,rfl⟩,q⟩;refine(qb G F1 ow1 σ H1 L1 R1).bind1 (t2:=λ y H2 Q=>∃ a p,∃ ys:List Str,V.str sep=V.str a/\[y]=[V.ref p]/\(SqL c.X.K H2 p (ys.map V.str)∨SqT c.X.K H2 p (ys.map V.str))/\(ys.map (·.length)).sum+ys.length * a.length<=16777216/\Q (V.str (Txt.join a ys)) H2) λ e L2 u H2 F2 ow2 _ e2 _ R2 b2=>?_
  cases hf:dJoin (.str sep) e with
  | none=>trivial
  | some z =>
   cases e with
   | list ds =>
    obtain⟨ys,h1,h2⟩:=Option.bind_eq_some_iff.mp (show(strsOf ds).bind (λ ys=>if joinOk sep ys then some (PyData.str (Txt.join sep ys)) else none)=some z from hf)
    by_cases hj:joinOk sep ys=true
    ·rw[if_pos hj]at h2
     cases h2
     have hl:∃ p,u=.ref p/\SqL c.X.K H2 p (ys.map V.str):=by
      rcases b2 with b2 | ⟨l,vs,ds',rfl,e1,q1,q2⟩
      ·cases b2 with
       | lst q1 q2=>exact⟨_,rfl,by rw[←uY q2 h1];exact .of (R2.exF _ _ q1)⟩
      ·cases e1
       exact⟨_,rfl,by rw[←uY q2 h1];exact q1⟩
     obtain⟨p,rfl,hl⟩:=hl;exact(Post.val (a:=PyData.str (Txt.join sep ys)) (B:=BD c.X.K) R2 (Dq.str _)).imp λ Q q=>⟨sep,p,ys,rfl,rfl,.inl hl,of_decide_eq_true hj,q⟩
    ·rw[if_neg hj]at h2
     cases h2
   | _=>cases hf
 | _=>trivial
end
inductive O where
 | nx
 | rt (s:S)
 | bk
 | ct
def Fit (c:Ct)(G F:Hp)(r:R O)(E:Ends):Prop:=match r with
 | .ok .nx L=>∀ σ' H' F' ow',Same F F'->c.Rl G F' ow' σ' H' L->E.nx σ' H'
 | .ok .bk L=>∀ σ' H' F' ow',Same F F'->c.Rl G F' ow' σ' H' L->E.bk σ' H'
 | .ok .ct L=>∀ σ' H' F' ow',Same F F'->c.Rl G F' ow' σ' H' L->E.ct σ' H'
 | .ok (.rt s) L=>∀ v σ' H' F' ow',Same F F'->c.Rl G F' ow' σ' H' L->RS c.X.K c.ca F' H' ow' [0] s v->E.rt v H'
 | .err e L=>∀ σ' H' F' ow',Same F F'->c.Rl G F' ow' σ' H' L->c.W (.ref (c.ca e)) none σ' H'
 | .stuck=>False
theorem Fit.up {c:Ct}{G F F1:Hp}{r:R O}{E:Ends}(e:Same F F1)(h:Fit c G F r E):Fit c G F1 r E:=by
 cases r with
 | stuck=>exact h
 | err k L=>exact λ σ' H' F' ow' e'=>h σ' H' F' ow' (e.trans e')
 | ok o L=>cases o with
  | nx=>exact λ σ' H' F' ow' e'=>h σ' H' F' ow' (e.trans e')
  | bk=>exact λ σ' H' F' ow' e'=>h σ' H' F' ow' (e.trans e')
  | ct=>exact λ σ' H' F' ow' e'=>h σ' H' F' ow' (e.trans e')
  | rt s=>exact λ v σ' H' F' ow' e'=>h v σ' H' F' ow' (e.trans e')
def JdgS (c:Ct)(g:LS->R O)(t:TS):Prop:=∀ G F ow σ H L,c.Rl G F ow σ H L->∀ E:Ends,Fit c G F (g L) E->t E σ H
def JS (c:Ct)(s:Stmt)(g:LS->R O):Prop:=∃ t,PS c.X s t/\JdgS c g t
def JB (c:Ct)(s:List Stmt)(g:LS->R O):Prop:=∃ t,PSs c.X s t/\JdgS c g t
def Ct.free (c:Ct)(i:Nat):Prop:=c.pb[i]?≠some true
section
variable {c:Ct}{n n1 n2 n3:Bool}{a b:Expr}{ga gb:LS->R D}{pos:Pos}{st:Stmt}{rest:List Stmt}{g g1 g2:LS->R O}
def gNext:LS->R O:=λ L=>.ok .nx L
def gSeq (g1 g2:LS->R O):LS->R O:=λ L=>match g1 L with
 | .ok .nx L1=>g2 L1
 | r=>r
theorem bJ:JB c [] gNext:=⟨_,pss_nil,λ G F ow σ H L Rr E h=>h σ H F ow (Same.refl F) Rr⟩
theorem aj (h1:JS c st g1)(h2:JB c rest g2):JB c (st::rest) (gSeq g1 g2):=by
 obtain⟨t,p,q⟩:=h1;obtain⟨t',p',q'⟩:=h2;refine⟨_,pss_cons p p',λ G F ow σ H L Rr E h=>?_⟩;refine q G F ow σ H L Rr { E with nx:=t' E } ?_;unfold gSeq at h
 cases hr:g1 L with
 | stuck=>rw[hr]at h;exact h
 | err k L1=>rw[hr]at h;exact h
 | ok o L1 =>
  rw[hr]at h
  cases o with
  | nx=>exact λ σ' H' F' ow' e R'=>q' G F' ow' σ' H' L1 R' E (Fit.up e h)
  | bk=>exact h
  | ct=>exact h
  | rt s=>exact h
theorem aA (h1:JS c st g1):JB c [st] g1:=by
 obtain⟨t,p,q⟩:=h1;exact⟨_,pss_one p,q⟩
theorem Post.use {α β:Type}{G F H:Hp}{σ:L2.St}{r:R α}{k:α->LS->R O}{B:Hp->Hp->(Addr->Option Path)->α->β->Prop}{t:(β->Hp->Prop)->Prop}{E:Ends}{Q:β->Hp->Prop}
  (h:Post c G n F H σ r B t) (f:Fit c G F (r.bind k) E)
  (hq:∀ a L1 b H1 F1 ow1,r=.ok a L1->Same F F1->c.Rl G F1 ow1 σ H1 L1->B F1 H1 ow1 a b->Fit c G F1 (k a L1) E->Q b H1):t Q:=by
 cases r with
 | stuck=>exact f.elim
 | err e L1=>exact h (λ H' F' ow' e' R'=>f σ H' F' ow' e' R') Q
 | ok a L1=>exact h Q λ b H1 F1 ow1 e1 _ R1 b1=>hq a L1 b H1 F1 ow1 rfl e1 R1 b1 (Fit.up e1 f)
def gDrop {α:Type}(g:LS->R α):LS->R O:=λ L=>(g L).bind λ _ L1=>.ok .nx L1
theorem uZ {g:LS->R S}(h:JE c n a g)(hs:swapsWith a none pos.line c.X.env=pure false:=by rfl):JS c (.Expr a pos) (gDrop g):=by
 obtain⟨t,p,q⟩:=h;refine⟨_,ps_expr p hs,λ G F ow σ H L Rr E f=>?_⟩;exact(q G F ow σ H L Rr).use f λ s L1 v H1 F1 ow1 _ _ R1 _ f1=>f1 σ H1 F1 ow1 (Same.refl F1) R1
def gRet (g:LS->R S):LS->R O:=λ L=>(g L).bind λ s L1=>.ok (.rt s) L1
theorem bf {g:LS->R S}(h:JE c n a g):JS c (.Return (some a) pos) (gRet g):=by
 obtain⟨t,p,q⟩:=h;refine⟨_,ps_ret p,λ G F ow σ H L Rr E f=>?_⟩;exact(q G F ow σ H L Rr).use f λ s L1 v H1 F1 ow1 _ _ R1 b1 f1=>f1 v σ H1 F1 ow1 (Same.refl F1) R1 b1
def gRetN:LS->R O:=λ L=>.ok (.rt (.d .none)) L
def gIf (t:LS->R Bool)(x y:LS->R O):LS->R O:=λ L=>(t L).bind λ b L1=>if b=true then x L1 else y L1
theorem cX {e:Expr}{xs ys:List Stmt}{t:LS->R Bool}(ht:JT c n e t)(hx:JB c xs g1)(hy:JB c ys g2):JS c (.If e xs ys pos) (gIf t g1 g2):=by
 obtain⟨t0,p0,q0⟩:=ht;obtain⟨t1,p1,q1⟩:=hx;obtain⟨t2,p2,q2⟩:=hy;refine⟨_,ps_if p0 p1 p2,λ G F ow σ H L Rr E f=>?_⟩;refine(q0 G F ow σ H L Rr).use f λ b L1 b' H1 F1 ow1 _ _ R1 b1 f1=>?_
 cases b1
 cases b with
 | true=>exact q1 G F1 ow1 σ H1 L1 R1 E f1
 | false=>exact q2 G F1 ow1 σ H1 L1 R1 E f1
section
variable {G F H:Hp}{ow:Addr->Option Path}{σ:L2.St}{L:LS}
theorem adB {i:Nat}{v:Option V}(Rr:c.Rl G F ow σ H L)(hp:c.free i):∀ (k:Nat) (u:V),(pinOf c.pb c.v0)[k]?=some (some u)->(σ.set i v)[k]?=some (some u):=λ k u h=>by
 have hk:i≠k:=λ z=>by
  subst z
  exact hp (lO h).1
 rw[List.getElem?_set_ne hk];exact Rr.pin k u h
theorem Rl.store {i:Nat}{s:S}{v:V}(Rr:c.Rl G F ow σ H L)(rs:RS c.X.K c.ca F H ow [0] s v)(hp:c.free i):c.Rl G F (reroot ow 0 (i+1)) (σ.set i (some v)) H (L.set i (some s)):=by
 refine Rr.moved (by rw[List.length_set,List.length_set];exact Rr.len) (λ k s' h=>?_) (adB Rr hp)
 have hlt:k < σ.length:=by
  have:=(List.getElem?_eq_some_iff.mp h).1
  rw[List.length_set]at this;rw[←Rr.len];exact this
 rcases jJ h with ⟨rfl,hs⟩ | ⟨hk,hs⟩
 ·cases Option.some.inj hs
  exact .inr ⟨v,by rw[List.getElem?_set];simp[hlt],rs.go (Same.refl F) oK⟩
 ·exact .inl ⟨hs,List.getElem?_set_ne hk,by omega⟩
theorem Rl.storeD {i:Nat}{d:D}{v:V}(Rr:c.Rl G F ow σ H L)(q:Dq c.X.K F v d)(hp:c.free i):c.Rl G F ow (σ.set i (some v)) H (L.set i (some (.d d))):=by
 refine⟨Rr.exF,Rr.exG,Rr.dF,Rr.dG,by rw[List.length_set,List.length_set];exact Rr.len,λ k s' h=>?_,adB Rr hp,Rr.exB,Rr.dB⟩
 have hlt:k < σ.length:=by
  have:=(List.getElem?_eq_some_iff.mp h).1
  rw[List.length_set]at this;rw[←Rr.len];exact this
 rcases jJ h with ⟨rfl,hs⟩ | ⟨hk,hs⟩
 ·cases Option.some.inj hs
  exact⟨v,by rw[List.getElem?_set];simp[hlt],RT.of (.d q)⟩
 ·obtain⟨u,h1,h2⟩:=Rr.sl k s' hs;exact⟨u,(List.getElem?_set_ne hk).trans h1,h2⟩
theorem Rl.put {i:Nat}{l:Addr}{o:HO}{q:Path}{s:S}(Rr:c.Rl G F ow σ H L)(ho:ow l=some ((i+1)::q))(new:∃ v,σ[i]?=some (some v)/\RS c.X.K c.ca F (upd H l o) ow [i+1] s v)(hk:¬ kT o:=by first | exact kT_lst | exact kT_dK | exact kT_dT | exact kT_ins):c.Rl G F ow σ (upd H l o) (L.set i (some s)):=by
 obtain⟨f0,g0,h0⟩:=Rr.dF l _ ho;refine⟨λ a u h=>?_,λ a u h=>?_,λ a p h=>?_,Rr.dG,by rw[List.length_set];exact Rr.len,λ k s' h=>?_,Rr.pin,λ a u h=>?_,Rr.dB⟩
 ·rw[upd_ne (ne_of_none h f0)];exact Rr.exF a u h
 ·rw[upd_ne (ne_of_none h g0)];exact Rr.exG a u h
 ·obtain⟨x,y,z⟩:=Rr.dF a p h;refine⟨x,y,?_⟩
  by_cases e:a=l
  ·subst e
   rw[upd_same];exact .of hk
  ·rw[upd_ne e];exact z
 ·rcases jJ h with ⟨rfl,hs⟩ | ⟨hk,hs⟩
  ·cases Option.some.inj hs
   obtain⟨v,w1,w2⟩:=new;exact⟨v,w1,RT.of w2⟩
  ·obtain⟨u,h1,h2⟩:=Rr.sl k s' hs;refine⟨u,h1,h2.go (Same.refl F) λ a w e=>⟨upd_ne λ z=>?_,e⟩⟩
   subst z
   rw[ho]at e
   injection e with e
   injection e with e _
   omega
 ·rw[upd_ne (ne_of_none h (Rr.dB l _ ho))];exact Rr.exB a u h
end
def gAsg (i:Nat)(g:LS->R S):LS->R O:=λ L=>(g L).bind λ s L1=>.ok .nx (L1.set i (some s))
theorem rA {i:Nat}{g:LS->R S}{t:TE}(hp:c.free i)(q:Jdg c n g (BE c.ca) t):JdgS c (gAsg i g) (tAsg t (L2.gName i)):=λ G F ow σ H L Rr E f =>
 (q G F ow σ H L Rr).use f λ s L1 v H1 F1 ow1 _ _ R1 b1 f1=>f1 _ H1 F1 _ (Same.refl F1) (Rl.store R1 b1 hp)
theorem bz (i:Nat){x:Str}{g:LS->R S}{pos':Pos}(hN:c.X.N.Nodup)(hi:c.X.N[i]?=some x)(hx:Loc c.X.env.scope x)(hp:c.free i)(h:JE c n a g)(hs:swapsWith a (some (.Name x pos')) pos.line c.X.env=pure false:=by rfl)
  (hf:c.X.fn x=true∨c.X.env.scope.names.lookup x=some .local:=by first | exact .inl rfl | exact .inr rfl | assumption):JS c (.Assign [.Name x pos'] a pos) (gAsg i g):=by
 obtain⟨t,p,q⟩:=h;exact⟨_,ps_set hN hi hx p hs hf,rA hp q⟩
def OutOf (ws:List Nat)(σ σ':L2.St):Prop:=σ'.length=σ.length/\∀ k,k∉ws->σ'[k]?=σ[k]?
def JG (c:Ct)(tg:Expr)(ws:List Nat)(f:D->LS->Option LS):Prop:=∃ t,PG c.X tg t/\∀ G F ow σ H L d v L',c.Rl G F ow σ H L->Dq c.X.K F v d->f d L=some L'->∀ Q:L2.St->Hp->Prop,(∀ σ',OutOf ws σ σ'->c.Rl G F ow σ' H L'->Q σ' H)->t v σ H Q
def JGs (c:Ct)(tgs:List Expr)(ws:List Nat)(f:List D->LS->Option LS):Prop:=∃ t,PGs c.X tgs t/\∀ G F ow σ H L ds vs L',c.Rl G F ow σ H L->DqA c.X.K F vs ds->f ds L=some L'->∀ Q:L2.St->Hp->Prop,(∀ σ',OutOf ws σ σ'->c.Rl G F ow σ' H L'->Q σ' H)->t vs σ H Q
def fName (i:Nat):D->LS->Option LS:=λ d L=>some (L.set i (some (.d d)))
theorem dO (i:Nat){x:Str}(hp:c.free i)(h:PG c.X (.Name x pos) (L2.gName i)):JG c (.Name x pos) [i] (fName i) :=
 ⟨_,h,λ G F ow σ H L d v L' Rr q e Q k=>by
  cases e
  refine k _ ⟨List.length_set ..,λ k hk=>List.getElem?_set_ne λ z=>hk ?_⟩ (Rl.storeD Rr q hp);rw[z]
  exact List.mem_singleton.mpr rfl⟩
def fNil:List D->LS->Option LS
 | [],L=>some L
 | _::_,_=>none
def fCons (f:D->LS->Option LS)(r:List D->LS->Option LS):List D->LS->Option LS
 | d::ds,L=>(f d L).bind (r ds)
 | [],_=>none
theorem aaI:JGs c [] [] fNil:=⟨_,pgs_nil,λ G F ow σ H L ds vs L' Rr q e Q k=>by
 cases q with
 | nil =>
  cases e
  exact⟨rfl,k σ ⟨rfl,λ _ _=>rfl⟩ Rr⟩
 | cons _ _=>cases e⟩
theorem pH {e:Expr}{es:List Expr}{ws vs:List Nat}{f:D->LS->Option LS}{r:List D->LS->Option LS}(h1:JG c e ws f)(h2:JGs c es vs r)(hs:(assignEach (e::es) c.X.env).map (·.2)=assign e c.X.env::(assignEach es c.X.env).map (·.2):=by rfl):JGs c (e::es) (ws++vs) (fCons f r):=by
 obtain⟨t,p,q⟩:=h1;obtain⟨t',p',q'⟩:=h2;refine⟨_,pgs_cons p p' hs,λ G F ow σ H L ds vs L' Rr hd e Q k=>?_⟩
 cases hd with
 | nil=>cases e
 | cons h1 h2 =>
  obtain⟨L1,e1,e2⟩:=Option.bind_eq_some_iff.mp e;refine⟨_,_,rfl,q G F ow σ H L _ _ L1 Rr h1 e1 _ λ σ' o1 R'=>q' G F ow σ' H L1 _ _ L' R' h2 e2 Q λ σ2 o2 R2=>k σ2 ⟨o2.1.trans o1.1,λ k hk=>?_⟩ R2⟩;rw[List.mem_append,not_or]at hk;exact(o2.2 k hk.2).trans (o1.2 k hk.1)
def fTup (m:Nat)(f:List D->LS->Option LS):D->LS->Option LS
 | .tuple ds,L=>if ds.length=m then f ds L else none
 | _,_=>none
theorem adC {es:List Expr}{k m:Nat}{ws:List Nat}{f:List D->LS->Option LS}(hc:c.X.calm=true)(h:JGs c es ws f)(hm:(assignEach es c.X.env).length=m:=by rfl)(hst:(assignEach es c.X.env).findIdx? (·.1)=none:=by rfl):JG c (.Tuple es k pos) ws (fTup m f):=by
 obtain⟨t,p,q⟩:=h;refine⟨_,pg_tup hc p hm hst,λ G F ow σ H L d v L' Rr hd e Q k=>?_⟩
 cases hd with
 | tup h1 h2 =>
  rename_i l vs ds
  have e:(if ds.length=m then f ds L else none)=some L':=e
  by_cases hl:ds.length=m
  ·rw[if_pos hl]at e;exact⟨l,vs,rfl,sqt_same Rr.exF h1,h2.len.trans hl,q G F ow σ H L ds vs L' Rr h2 e Q k⟩
  ·rw[if_neg hl]at e
   cases e
 | _=>cases e
def gAsgT (f:D->LS->Option LS)(g:LS->R D):LS->R O:=λ L=>(g L).bind λ d L1=>match f d L1 with
 | some L2=>.ok .nx L2
 | none=>.stuck
def gOwnL (i:Nat)(k:List D->LS->R S):LS->R S:=λ L=>match L[i]? with
 | some (some (.ol ds))=>k ds L
 | _=>.stuck
theorem aaJ {G F H:Hp}{ow:Addr->Option Path}{σ:L2.St}{L:LS}{i:Nat}{ds:List D}(Rr:c.Rl G F ow σ H L)(h:L[i]?=some (some (.ol ds))) :
  ∃ l vs,σ[i]?=some (some (.ref l))/\H l=some (.lst vs)/\ow l=some [i+1]/\DqA c.X.K F vs ds:=by
 obtain⟨v,hv,rs⟩:=Rr.sl i _ h
 cases rs with
 | ol a b q=>exact⟨_,_,hv,a,b,q⟩
theorem Rl.putL {G F H:Hp}{ow:Addr->Option Path}{σ:L2.St}{L:LS}{i:Nat}{l:Addr}{vs:List V}{ds:List D}(Rr:c.Rl G F ow σ H L)(hv:σ[i]?=some (some (.ref l)))(ho:ow l=some [i+1])(q:DqA c.X.K F vs ds) :
  c.Rl G F ow σ (upd H l (.lst vs)) (L.set i (some (.ol ds))):=Rl.put Rr ho ⟨_,hv,.ol upd_same ho q⟩
def gApp (i:Nat)(g:LS->R D):LS->R S:=gOwnL i λ _ L=>(g L).bind λ d L1=>gOwnL i (λ ds L2=>if ds.length < sizeLine then .ok (.d .none) (L2.set i (some (.ol (ds++[d])))) else .stuck) L1
theorem oM (i:Nat){x:Str}{p apos:Pos}(h:PE c.X (.Name x p) (tVar i))(ha:JD c n a ga)
  (hbase:attributeBase (.Name x p) "append" c.X.env (eval (.Name x p) c.X.env)=eval (.Name x p) c.X.env:=by rfl)
  (hfew:((backTo pos (starEach [a] c.X.env)).all (λ x=>!x.1)&&(backToKw pos (keywordEach [] c.X.env)).all (λ x=>x.1.isSome)&&decide ([a].length+([]:List Keyword).length+(if([]:List Keyword).isEmpty then 0 else 1) < 30))=true:=by rfl)
  (hline:(apos.endLine == pos.line)=true:=by rfl) (hs:starEach [a] c.X.env=(false,eval a c.X.env)::starEach [] c.X.env:=by rfl) (hplain:(backTo pos (starEach [] c.X.env)).any (·.1)=false:=by rfl) :
  JE c false (.Call (.Attribute (.Name x p) "append" apos) [a] [] pos) (gApp i ga):=by
 obtain⟨ta,pa,qa⟩:=ha;refine⟨_,pe_bm PySem.F.plainAttrs_list PySem.F.slot_list_append PySem.F.type_list_append mt_append h (pa_cons pa pa_nil hs) hbase hfew hline hs hplain,λ G F ow σ H L Rr=>?_⟩;unfold gApp gOwnL
 cases hL:L[i]? with
 | none=>trivial
 | some o =>
  cases o with
  | none=>trivial
  | some s =>
   cases s with
   | ol ds0 =>
    obtain⟨l,vs0,hv,h0,_,_⟩:=aaJ Rr hL
    have key:=(qa G F ow σ H L Rr).bind (n2:=false) (k:=λ d L1=>gOwnL i (λ ds L2=>if ds.length < sizeLine then R.ok (S.d .none) (L2.set i (some (.ol (ds++[d])))) else .stuck) L1) (B2:=BE c.ca c.X.K) (t2:=λ y H1 Q=>rAppend (.ref l) [y] H1 Q)
     λ d L1 v H1 F1 ow1 _ _ _ R1 b1=>by
      unfold gOwnL
      cases hL1:L1[i]? with
      | none=>trivial
      | some o =>
       cases o with
       | none=>trivial
       | some s =>
        cases s with
        | ol ds =>
         obtain⟨l',vs,hv',h1,h2,h3⟩:=aaJ R1 hL1;rw[hv]at hv'
         cases hv'
         refine Post.guard λ hz=>?_;intro Q q;exact⟨l,vs,v,rfl,rfl,h1,by rw[h3.len];exact hz,q _ _ F1 ow1 (Same.refl F1) (λ z=>nomatch z) (Rl.putL R1 hv h2 (h3.append (.one b1))) (.d .non)⟩
        | _=>trivial
    rw[Bool.and_false]at key;exact key.imp λ Q q=>⟨_,hv,.inl ⟨rfl,_,.of h0⟩,q⟩
   | _=>trivial
def setAt (i:Nat)(d:D):D->LS->R O
 | .int k,L=>(match L[i]? with
  | some (some (.ol ds))=>(match ixN ds.length k with
   | some j=>.ok .nx (L.set i (some (.ol (ds.set j d))))
   | none=>.stuck)
  | _=>.stuck)
 | _,_=>.stuck
def gSetIx (i:Nat)(gk g:LS->R D):LS->R O:=λ L=>(g L).bind λ d L1=>match L1[i]? with
 | some (some _)=>(gk L1).bind (setAt i d)
 | _=>.stuck
theorem rB (i:Nat){x:Str}{k:Expr}{gk:LS->R D}{p p3:Pos}(h:PE c.X (.Name x p) (tVar i))(hk:JD c n1 k gk)(ha:JD c n2 a ga)
  (hb:∀ v,assign (.Subscript (.Name x p) k p3) c.X.env v=(do
   let ov ←holding [v] (eval (.Name x p) c.X.env)
   let iv ←holding [v,ov] (eval k c.X.env)
   standAt p3
   holding [v,ov,iv] (setItem ov iv v)
   release [v,ov,iv] []):=by intro _;rfl)
  (hs:swapsWithSole [.Subscript (.Name x p) k p3] a pos.line c.X.env=pure false:=by rfl) (hw:swappedStores [.Subscript (.Name x p) k p3] a c.X.env=pure none:=by rfl) (h1:(assignEach [.Subscript (.Name x p) k p3] c.X.env).map (·.2)=[assign (.Subscript (.Name x p) k p3) c.X.env]:=by rfl) :
  JS c (.Assign [.Subscript (.Name x p) k p3] a pos) (gSetIx i gk ga):=by
 obtain⟨ta,pa,qa⟩:=ha;obtain⟨tk,pk,qk⟩:=hk;refine⟨_,ps_asg pa (pg_sub h pk set_list hb) hs hw h1,λ G F ow σ H L Rr E ft=>?_⟩;refine(qa G F ow σ H L Rr).use ft λ d L1 v H1 F1 ow1 _ _ R1 b1 f1=>?_
 cases hL:L1[i]? with
 | none=>rw[hL]at f1;exact f1.elim
 | some o =>
  rw[hL]at f1
  cases o with
  | none=>exact f1.elim
  | some s =>
   obtain⟨u,hu,_⟩:=R1.sl i s hL;refine⟨u,hu,?_⟩;refine(qk G F1 ow1 σ H1 L1 R1).use f1 λ e L2 w H2 F2 ow2 _ e2 R2 b2 f2=>?_
   cases b2 with
   | int m =>
    have f2:Fit c G F2 (match L2[i]? with
     | some (some (.ol ds))=>(match ixN ds.length m with
      | some j=>R.ok .nx (L2.set i (some (.ol (ds.set j d))))
      | none=>.stuck)
     | _=>.stuck) E:=f2
    cases hL2:L2[i]? with
    | none=>rw[hL2]at f2;exact f2.elim
    | some o =>
     rw[hL2]at f2
     cases o with
     | none=>exact f2.elim
     | some s =>
      cases s with
      | ol ds =>
       obtain⟨l,vs,hv',h1',h2,h3⟩:=aaJ R2 hL2;rw[hu]at hv'
       cases hv'
       dsimp only at f2
       cases hj:ixN ds.length m with
       | none=>rw[hj]at f2;exact f2.elim
       | some j =>
        rw[hj]at f2;exact⟨l,vs,m,j,rfl,rfl,h1',by rw[h3.len];exact hj,f2 _ _ F2 ow2 (Same.refl F2) (Rl.putL R2 hu h2 (h3.set (b1.up e2) j))⟩
      | _=>exact f2.elim
   | _=>exact f2.elim
def ItOk (K:PySem.W.Frag)(B F:Hp)(ds:List D)(J:It):Prop:=∀ (i:Nat) (H:Hp),Same F H->Same B H->(ds.length<=i->J.stop i H)/\∀ d,ds[i]?=some d->J.go i H/\∀ x H',J.yld i H x H' ->
 (H'=H/\Dq K F x d)∨∃ p vs es,d=.tuple es/\x=.ref p/\H p=none/\H'=upd H p (.tup vs)/\DqA K F vs es
theorem ItOk.up {K:PySem.W.Frag}{B F F':Hp}{ds:List D}{J:It}(e:Same F F')(h:ItOk K B F ds J):ItOk K B F' ds J:=λ i H s sb=>by
 obtain⟨h1,h2⟩:=h i H (e.trans s) sb
 refine⟨h1,λ d hd=>?_⟩
 obtain⟨h3,h4⟩:=h2 d hd
 refine⟨h3,λ x H' y=>?_⟩
 rcases h4 x H' y with ⟨a,b⟩ | ⟨p,vs,es,a,b,c,d,q⟩
 ·exact .inl ⟨a,b.up e⟩
 ·exact .inr ⟨p,vs,es,a,b,c,d,q.up e⟩
def BI (B:Hp):PySem.W.Frag->Hp->Hp->(Addr->Option Path)->List D->It->Prop:=λ K F _ _ ds J=>ItOk K B F ds J
def JI (c:Ct)(n:Bool)(tg iter:Expr)(g:LS->R (List D)):Prop:=∃ wi,PI c.X tg iter wi/\Jdg c n g (BI c.B) wi
def asL:D->LS->R (List D)
 | .list ds,L=>.ok ds L
 | _,_=>.stuck
def asT:D->LS->R (List D)
 | .tuple ds,L=>.ok ds L
 | _,_=>.stuck
variable {tg:Expr}
def intsD (lo:Int)(m:Nat):List D:=(List.range m).map λ i=>PyData.int (lo+(i:Nat))
theorem rC (lo:Int)(m:Nat):(intsD lo m).length=m:=by
 unfold intsD;rw[List.length_map,List.length_range]
theorem aln {K:PySem.W.Frag}{B F:Hp}{lo:Int}{m:Nat}:ItOk K B F (intsD lo m) (Itr lo m):=λ i H s _=>by
 rw[rC]
 refine⟨λ h=>h,λ d hd=>?_⟩
 have hi:i < m:=by
  have:=(List.getElem?_eq_some_iff.mp hd).1
  rw[rC]at this
  exact this
 unfold intsD at hd
 rw[List.getElem?_map,List.getElem?_range hi]at hd
 cases hd
 exact⟨hi,λ x H' ⟨e1,e2⟩=>.inl ⟨e1,by rw[e2];exact .int _⟩⟩
def abJ:List D->LS->R (List D)
 | [.int j],L=>if -(2 ^ 62)<=j/\j < 2 ^ 62 then .ok (intsD 0 j.toNat) L else .stuck
 | _,_=>.stuck
theorem mF {gs:LS->R (List D)}{p:Pos}(hg:Gl c.X "range") (hm:c.X.mg "range"=none) (h:JA c n [a] gs) (hs:starEach [a] c.X.env=[(false,eval a c.X.env)]:=by rfl):JI c n tg (.Call (.Name "range" p) [a] [] pos) (λ L=>(gs L).bind abJ):=by
 obtain⟨t,pa,q⟩:=h;refine⟨_,pi_range1 hg hm pa hs,λ G F ow σ H L Rr=>(q G F ow σ H L Rr).bind1 (t2:=λ vs H1 Q=>∃ j:Int,vs=[V.int j]/\-(2 ^ 62)<=j/\j < 2 ^ 62/\Q (Itr 0 j.toNat) H1) λ ds L1 vs H1 F1 ow1 _ _ _ R1 b1=>?_⟩
 cases b1 with
 | nil=>trivial
 | cons x y =>
  cases y with
  | cons _ _=>cases x<;>trivial
  | nil =>
   cases x with
   | int j=>exact Post.guard λ hj=>(Post.val (a:=intsD 0 j.toNat) (b:=Itr 0 j.toNat) (B:=BI c.B c.X.K) R1 aln).imp λ Q q=>⟨j,rfl,hj.1,hj.2,q⟩
   | _=>trivial
def forGo (f:D->LS->Option LS)(g:LS->R O):List D->LS->R O
 | [],L=>.ok .nx L
 | d::ds,L=>match f d L with
  | none=>.stuck
  | some L1=>match g L1 with
   | .ok .nx L2=>forGo f g ds L2
   | .ok .ct L2=>forGo f g ds L2
   | .ok .bk L2=>.ok .nx L2
   | r=>r
def gFor (gi:LS->R (List D))(f:D->LS->Option LS)(g:LS->R O):LS->R O:=λ L=>(gi L).bind λ ds L1=>forGo f g ds L1
theorem mG {ws:List Nat}{iter:Expr}{body:List Stmt}{gi:LS->R (List D)}{f:D->LS->Option LS}(hp:PassesOwn (model c.X.prog c.X.w) c.X.A c.X.env c.X.xe)(hc:c.X.calm=true)(hi:JI c n tg iter gi)(hg:JG c tg ws f)(hb:JB c body g)
  (hs:∀ x,foldedSetIterable iter c.X.env x=pure x:=by intro _;rfl):JS c (.For tg iter body [] pos) (gFor gi f g):=by
 obtain⟨wi,p1,q1⟩:=hi;obtain⟨tt,p2,q2⟩:=hg;obtain⟨tb,p3,q3⟩:=hb;refine⟨_,ps_for hp hc p1 p2 p3 hs,λ G F ow σ H L Rr E ft=>?_⟩;refine(q1 G F ow σ H L Rr).use ft λ ds L1 J H1 F1 ow1 _ _ R1 b1 f1=>?_;refine⟨λ i m σ H=>m=ds.length - i/\i<=ds.length/\∃ F' ow' L',Same F1 F'/\c.Rl G F' ow' σ H L'/\Fit c G F' (forGo f g (ds.drop i) L') E,⟨ds.length,rfl,Nat.zero_le _,F1,ow1,L1,Same.refl F1,R1,f1⟩,λ i m σ2 H2 hW=>?_⟩;obtain⟨rfl,hi,F2,ow2,L2,e2,R2,f2⟩:=hW;obtain⟨k1,k2⟩:=(ItOk.up e2 b1) i H2 R2.exF R2.exB
 by_cases hlt:i < ds.length
 ·have hd:ds[i]?=some ds[i]:=List.getElem?_eq_getElem hlt
  obtain⟨k3,k4⟩:=k2 _ hd;rw[List.drop_eq_getElem_cons hlt]at f2;refine .inr ⟨k3,λ σ' H'=>∃ F' ow' L',Same F1 F'/\c.Rl G F' ow' σ' H' L'/\Fit c G F' (forGo f g (ds.drop (i+1)) L') E,λ σ' H' ⟨F',ow',L',w1,w2,w3⟩=>⟨ds.length - (i+1),by omega,rfl,hlt,F',ow',L',w1,w2,w3⟩,λ x H' y=>?_⟩
  have step:∀ {F3:Hp} {H3:Hp},Same F2 F3->c.Rl G F3 ow2 σ2 H3 L2->Dq c.X.K F3 x ds[i]->tt x σ2 H3 λ σ4 H4=>tb { nx:=λ σ' H'=>∃ F' ow' L',Same F1 F'/\c.Rl G F' ow' σ' H' L'/\Fit c G F' (forGo f g (ds.drop (i+1)) L') E,rt:=E.rt,bk:=E.nx,ct:=λ σ' H'=>∃ F' ow' L',Same F1 F'/\c.Rl G F' ow' σ' H' L'/\Fit c G F' (forGo f g (ds.drop (i+1)) L') E } σ4 H4:=λ {F3 H3} e3 R3 hx=>by
   have f3:Fit c G F3 (forGo f g (ds[i]::ds.drop (i+1)) L2) E:=Fit.up e3 f2
   unfold forGo at f3
   cases hf:f ds[i] L2 with
   | none=>rw[hf]at f3;exact f3.elim
   | some L3 =>
    rw[hf]at f3;refine q2 G F3 ow2 σ2 H3 L2 _ x L3 R3 hx hf _ λ σ4 _ R4=>?_;refine q3 G F3 ow2 σ4 H3 L3 R4 _ ?_
    dsimp only at f3
    cases hr:g L3 with
    | stuck=>rw[hr]at f3;exact f3.elim
    | err k L4=>rw[hr]at f3;exact f3
    | ok o L4 =>
     rw[hr]at f3
     cases o with
     | nx=>exact λ σ' H' F' ow' e' R'=>⟨F',ow',L4,(e2.trans e3).trans e',R',Fit.up e' f3⟩
     | ct=>exact λ σ' H' F' ow' e' R'=>⟨F',ow',L4,(e2.trans e3).trans e',R',Fit.up e' f3⟩
     | bk=>exact f3
     | rt s=>exact f3
  rcases k4 x H' y with ⟨rfl,hx⟩ | ⟨p,vs,es,he,rfl,hp',rfl,hq⟩
  ·exact step (Same.refl F2) R2 hx
  ·obtain⟨w1,w2,w3⟩:=R2.newF (o:=.tup vs) hp';rw[he]at step;exact step w1 w3 (.tup upd_same (hq.up w1))
 ·have hl:ds.length<=i:=Nat.le_of_not_lt hlt
  rw[List.drop_eq_nil_of_le hl]at f2;exact .inl ⟨k1 hl,f2 σ2 H2 F2 ow2 (Same.refl F2) R2⟩
end
def maskL:List Bool->LS->LS
 | b::bs,o::L=>(if b then o else none)::maskL bs L
 | _::bs,[]=>none::maskL bs []
 | [],_=>[]
def endOf (md:List Bool):R O->R S
 | .ok .nx L=>.ok (.d .none) (maskL md L)
 | .ok (.rt s) L=>.ok s (maskL md L)
 | .ok _ _=>.stuck
 | .err e L=>.err e (maskL md L)
 | .stuck=>.stuck
def runDef (md:List Bool)(N:Nat)(g:LS->R O):LS->R S:=λ ss=>endOf md (g (ss++List.replicate (N - ss.length) none))
def VSp (K:PySem.W.Frag)(ca:Nat->Addr)(md:List Bool)(m:LS->R S):Sp:=λ vs H Q E=>∃ B G F ow ss,ss.length=md.length/\Rl K ca B [] G F ow (vs.map some) H ss/\match m ss with
 | .ok s L=>∀ v H' F' ow',Same F F'->Rl K ca B [] G F' ow' (vs.map some) H' L->RS K ca F' H' ow' [0] s v->Q v H'
 | .err e L=>∀ H' F' ow',Same F F'->Rl K ca B [] G F' ow' (vs.map some) H' L->E (.ref (ca e)) none H'
 | .stuck=>False
theorem VSp.len {K:PySem.W.Frag}{ca:Nat->Addr}{md:List Bool}{m:LS->R S}{vs:List V}{H:Hp}{Q:VK}{E:XK}(h:VSp K ca md m vs H Q E):vs.length=md.length:=by
 obtain⟨B,G,F,ow,ss,h1,h2,_⟩:=h
 have:=h2.len
 rw[List.length_map]at this
 omega
theorem rD:∀ {md:List Bool} {L:LS} {i:Nat} {s:S},(maskL md L)[i]?=some (some s)->md[i]?=some true/\L[i]?=some (some s)
 | b::bs,o::L,0,s,h=>by
  have h':(if b then o else none)=some s:=Option.some.inj h
  cases b with
  | true=>exact⟨rfl,congrArg some h'⟩
  | false=>cases h'
 | b::bs,o::L,i+1,s,h=>rD (md:=bs) (L:=L) (i:=i) h
 | b::bs,[],0,s,h=>by cases h
 | b::bs,[],i+1,s,h=>by
  have:=(rD (md:=bs) (L:=[]) (i:=i) (s:=s) h).2
  cases this
 | [],_,_,_,h=>by cases h
theorem rE:∀ (md:List Bool) (L:LS),(maskL md L).length=md.length
 | [],L=>by cases L<;>rfl
 | b::bs,[]=>by
  show(maskL bs []).length+1=_;rw[rE bs []]<;>rfl
 | b::bs,o::L=>by
  show(maskL bs L).length+1=_;rw[rE bs L]<;>rfl
section
variable {P:Program}{w:World}{K:PySem.W.Frag}{mg:Str->Option Value}{base:Heap}{ca:Nat->Addr}
abbrev ctOf (P:Program)(w:World)(K:PySem.W.Frag)(mg:Str->Option Value)(base:Heap)(ca:Nat->Addr)(N:List Str)(qual:Str)(sc:Scope)(f:Addr)(cdv:Value)(A:Around)(outer:List Env)(s:Shared)(H:Hp)(E:XK)(md:List Bool)(vs:List V)(B:Hp:=λ _=>none):Ct :=
 ⟨cxOf (L2.CX P w) P w K mg base N qual sc f cdv A outer s H E,λ cls d _ H=>E cls d H,ca,md,vs,B⟩
theorem j7 {x qual:Str}{st:Stmt}{f:Addr}{fd:FuncData}{N ps:List Str}{k:Nat}{md:List Bool}{g:LS->R O}(F:Fun K x qual st f fd)(S:FnScope N ps (defScope st))(hmd:md.length=ps.length)(hN:ps.length<=N.length)
  (hb:∀ (cdv:Value) (A:Around) (outer:List Env) (s:Shared) (H:Hp) (E:XK) (vs:List V),Room k (A.deeper (envOfC qual (defScope st) s.heap.objs.size f cdv))->∀ B:Hp,JB (ctOf P w K mg base ca N qual (defScope st) f cdv A outer s H E md vs B) (defBody st) g) :
  FnOk P w K mg base (L2.CX P w) (k+1) f fd ps (VSp K ca md (runDef md N.length g)):=by
 refine F.okX S (λ vs H Q E h=>h.len.trans hmd) (λ cdv A outer s H vs Q E hr h=>?_)
 have hlen:vs.length=md.length:=h.len
 obtain⟨B,G,F0,ow,ss,h1,h2,h3⟩:=h;obtain⟨t,ht,hq⟩:=hb cdv A outer s H E vs hr B;refine⟨t,ht,?_⟩
 have hlv:ss.length=vs.length:=by
  have:=h2.len
  rw[List.length_map]at this;exact this
 have pinv:∀ (i:Nat) (v:V),(pinOf md vs)[i]?=some (some v)->(vs.map some)[i]?=some (some v):=λ i v h=>by
  rw[List.getElem?_map,(lO h).2]
  rfl
 have R0:Rl K ca B (pinOf md vs) G F0 ow (L2.start N vs) H (ss++List.replicate (N.length - ss.length) none):=by
  refine⟨h2.exF,h2.exG,h2.dF,h2.dG,?_,λ i s0 hi=>?_,λ i v hi=>?_,h2.exB,h2.dB⟩
  ·unfold L2.start;rw[List.length_append,List.length_append,List.length_replicate,List.length_replicate,List.length_map,hlv]
  ·have hlt:i < ss.length:=by
    by_cases z:i < ss.length
    ·exact z
    ·rw[List.getElem?_append_right (Nat.le_of_not_lt z),List.getElem?_replicate]at hi
     split at hi<;>cases hi
   rw[List.getElem?_append_left hlt]at hi;obtain⟨v,q1,q2⟩:=h2.sl i s0 hi;refine⟨v,?_,q2⟩;unfold L2.start;rw[List.getElem?_append_left (by rw[List.length_map];omega)];exact q1
  ·have q:=pinv i v hi
   unfold L2.start;rw[List.getElem?_append_left (List.getElem?_eq_some_iff.mp q).1];exact q
 have back:∀ {σ':L2.St} {H' F':Hp} {ow':Addr->Option Path} {L:LS},Rl K ca B (pinOf md vs) G F' ow' σ' H' L->Rl K ca B [] G F' ow' (vs.map some) H' (maskL md L):=λ {σ' H' F' ow' L} r=>by
  refine⟨r.exF,r.exG,r.dF,r.dG,?_,λ i s0 hi=>?_,(λ i v hi=>nomatch hi),r.exB,r.dB⟩
  ·rw[rE,List.length_map,hlen]
  ·obtain⟨m1,m2⟩:=rD hi;obtain⟨v,q1,q2⟩:=r.sl i s0 m2
   have hlt:i < vs.length:=by
    have:=(List.getElem?_eq_some_iff.mp m1).1
    omega
   have hpin:=r.pin i vs[i] (km m1 (List.getElem?_eq_getElem hlt))
   rw[hpin]at q1
   cases q1
   exact⟨_,by rw[List.getElem?_map,List.getElem?_eq_getElem hlt];rfl,q2⟩
 refine hq G F0 ow (L2.start N vs) H _ R0 _ ?_;unfold runDef at h3
 cases hr:g (ss++List.replicate (N.length - ss.length) none) with
 | stuck=>rw[hr]at h3;exact h3
 | err e L =>
  rw[hr]at h3;exact λ σ' H' F' ow' e' R'=>h3 H' F' ow' e' (back R')
 | ok o L =>
  rw[hr]at h3
  cases o with
  | nx=>exact λ σ' H' F' ow' e' R'=>h3 .non H' F' ow' e' (back R') (.d .non)
  | rt s0=>exact λ v σ' H' F' ow' e' R' rs=>h3 v H' F' ow' e' (back R') rs
  | bk=>exact h3.elim
  | ct=>exact h3.elim
end
inductive Ar where
 | d (g:LS->R D)
 | r (i:Nat)
inductive Av where
 | d (d:D)
 | r (i:Nat)
def evArgs:List Ar->LS->R (List Av)
 | [],L=>.ok [] L
 | .d g::as,L=>(g L).bind λ d L1=>(evArgs as L1).bind λ xs L2=>.ok (.d d::xs) L2
 | .r i::as,L=>match L[i]? with
  | some (some _)=>(evArgs as L).bind λ xs L2=>.ok (.r i::xs) L2
  | _=>.stuck
def AvOk (K:PySem.W.Frag)(σ:L2.St)(F:Hp):List Av->List V->Prop:=Paired λ x v=>match x with
 | .d d=>Dq K F v d
 | .r i=>σ[i]?=some (some v)
theorem AvOk.up {K:PySem.W.Frag}{σ:L2.St}{F F':Hp}{xs:List Av}{vs:List V}(e:Same F F')(h:AvOk K σ F xs vs):AvOk K σ F' xs vs:=Paired.mapP h λ x v z=>by
 cases x with
 | d d=>exact Dq.up e z
 | r i=>exact z
def allD:List Ar->Bool
 | []=>true
 | .d _::as=>allD as
 | .r _::_=>false
def refs:List Av->List Nat
 | []=>[]
 | .d _::xs=>refs xs
 | .r i::xs=>i::refs xs
def JAr (c:Ct)(n:Bool)(es:List Expr)(as:List Ar):Prop:=∃ t,PA c.X es t/\∀ G F ow σ H L,c.Rl G F ow σ H L->Post c G n F H σ (evArgs as L) (λ F' _ _ xs vs=>AvOk c.X.K σ F' xs vs/\(allD as=true->refs xs=[])) (t σ H)
section
variable {c:Ct}{n n1 n2 n3:Bool}{a b:Expr}{ga gb:LS->R D}{pos:Pos}{es:List Expr}{as:List Ar}
theorem aN:JAr c true [] []:=⟨_,pa_nil,λ G F ow σ H L Rr=>Post.val Rr ⟨.nil,λ _=>rfl⟩⟩
theorem cG (h1:JD c n1 a ga)(h2:JAr c n2 es as)(hs:starEach (a::es) c.X.env=(false,eval a c.X.env)::starEach es c.X.env:=by rfl):JAr c (n1&&n2) (a::es) (.d ga::as):=by
 obtain⟨t1,p1,q1⟩:=h1;obtain⟨t2,p2,q2⟩:=h2;refine⟨_,pa_cons p1 p2 hs,λ G F ow σ H L Rr=>?_⟩;refine(q1 G F ow σ H L Rr).bind λ d L1 v H1 F1 ow1 _ _ _ R1 b1=>?_;exact(q2 G F1 ow1 σ H1 L1 R1).bind1 (t2:=λ vs H2 Q=>Q (v::vs) H2) λ xs L2 vs H2 F2 ow2 _ e2 _ R2 b2=>Post.val R2 ⟨.cons (Dq.up e2 b1) b2.1,λ h=>b2.2 h⟩
theorem fZ (i:Nat){x:Str}{p:Pos}(h1:PE c.X (.Name x p) (tVar i))(h2:JAr c n es as)(hs:starEach (.Name x p::es) c.X.env=(false,eval (.Name x p) c.X.env)::starEach es c.X.env:=by rfl):JAr c n (.Name x p::es) (.r i::as):=by
 obtain⟨t2,p2,q2⟩:=h2;refine⟨_,pa_cons h1 p2 hs,λ G F ow σ H L Rr=>?_⟩;unfold evArgs
 cases hL:L[i]? with
 | none=>trivial
 | some o =>
  cases o with
  | none=>trivial
  | some s =>
   obtain⟨v,hv,_⟩:=Rr.sl i s hL;exact((q2 G F ow σ H L Rr).bind1 (t2:=λ vs H2 Q=>Q (v::vs) H2) λ xs L2 vs H2 F2 ow2 _ e2 _ R2 b2=>Post.val (B:=λ F' _ _ xs vs=>AvOk c.X.K σ F' xs vs/\(allD (.r i::as)=true->refs xs=[])) R2 ⟨.cons hv b2.1,λ h=>nomatch h⟩).imp λ Q q=>⟨v,hv,q⟩
def slotOf (L:LS):Av->Option S
 | .d d=>some (.d d)
 | .r i=>(L[i]?).join
def putBack:List Av->LS->LS->LS
 | .r i::xs,o::ss,L=>putBack xs ss (L.set i o)
 | .d _::xs,_::ss,L=>putBack xs ss L
 | _,_,L=>L
def callAt (m:LS->R S)(xs:List Av)(L:LS):R S:=match m (xs.map (slotOf L)) with
 | .ok s ss=>.ok s (putBack xs ss L)
 | .err e ss=>.err e (putBack xs ss L)
 | .stuck=>.stuck
def gCall (m:LS->R S)(as:List Ar):LS->R S:=λ L=>(evArgs as L).bind λ xs L1=>if(refs xs).Nodup then callAt m xs L1 else .stuck
def posR:List Av->Nat->Option Nat
 | [],_=>none
 | .r k::xs,i=>if k=i then some 0 else(posR xs i).map (·+1)
 | .d _::xs,i=>(posR xs i).map (·+1)
theorem xU:∀ {xs:List Av} {i j:Nat},posR xs i=some j->xs[j]?=some (Av.r i)
 | .r k::xs,i,j,h=>by
  have h:(if k=i then some 0 else(posR xs i).map (·+1))=some j:=h
  by_cases hk:k=i
  ·rw[if_pos hk]at h
   cases h
   rw[hk]
   rfl
  ·rw[if_neg hk]at h;obtain⟨l,h1,rfl⟩:=Option.map_eq_some_iff.mp h;exact xU (xs:=xs) h1
 | .d _::xs,i,j,h=>by
  obtain⟨l,h1,rfl⟩:=Option.map_eq_some_iff.mp (show(posR xs i).map (·+1)=some j from h);exact xU (xs:=xs) h1
 | [],_,_,h=>by cases h
theorem rF:∀ {xs:List Av} {i j:Nat},xs[j]?=some (.r i)->i∈refs xs
 | .r k::xs,i,0,h=>by
  cases h
  exact List.mem_cons_self
 | .r k::xs,i,j+1,h=>List.mem_cons_of_mem _ (rF (xs:=xs) h)
 | .d _::xs,i,0,h=>by cases h
 | .d _::xs,i,j+1,h=>rF (xs:=xs) (j:=j) h
 | [],_,_,h=>by cases h
theorem aaK:∀ {xs:List Av} {i j:Nat},(refs xs).Nodup->xs[j]?=some (.r i)->posR xs i=some j
 | .r k::xs,i,0,_,h=>by
  cases h
  exact if_pos rfl
 | .r k::xs,i,j+1,nd,h=>by
  have h':xs[j]?=some (.r i):=h
  have hk:k≠i:=λ z=>by
   subst z
   exact(List.nodup_cons.mp nd).1 (rF h')
  show(if k=i then some 0 else(posR xs i).map (·+1))=_;rw[if_neg hk,aaK (List.nodup_cons.mp nd).2 h']
  rfl
 | .d _::xs,i,0,_,h=>by cases h
 | .d _::xs,i,j+1,nd,h=>by
  show(posR xs i).map (·+1)=_;rw[aaK (xs:=xs) nd (show xs[j]?=some (.r i) from h)]
  rfl
 | [],_,_,_,h=>by cases h
theorem qD:∀ (xs:List Av) (ss L:LS),(putBack xs ss L).length=L.length
 | .r i::xs,o::ss,L=>by
  show(putBack xs ss (L.set i o)).length=_;rw[qD xs ss,List.length_set]
 | .d _::xs,o::ss,L=>qD xs ss L
 | [],_,L=>rfl
 | .r _::_,[],L=>rfl
 | .d _::_,[],L=>rfl
theorem qF:∀ {xs:List Av} {ss L:LS} {k:Nat} {s:S},(putBack xs ss L)[k]?=some (some s)->(∃ j:Nat,xs[j]?=some (Av.r k)/\ss[j]?=some (some s))∨(L[k]?=some (some s)/\(ss.length=xs.length->k∉refs xs))
 | .r i::xs,o::ss,L,k,s,h=>by
  have h:(putBack xs ss (L.set i o))[k]?=some (some s):=h
  rcases qF h with ⟨j,h1,h2⟩ | ⟨h1,h2⟩
  ·exact .inl ⟨j+1,h1,h2⟩
  ·rcases jJ h1 with ⟨rfl,h3⟩ | ⟨hk,h3⟩
   ·exact .inl ⟨0,rfl,congrArg some h3⟩
   ·refine .inr ⟨h3,λ hl hm=>?_⟩;rcases List.mem_cons.mp hm with z | z
    ·exact hk z.symm
    ·exact h2 (by simpa using hl) z
 | .d _::xs,o::ss,L,k,s,h=>by
  have h:(putBack xs ss L)[k]?=some (some s):=h
  rcases qF h with ⟨j,h1,h2⟩ | ⟨h1,h2⟩
  ·exact .inl ⟨j+1,h1,h2⟩
  ·exact .inr ⟨h1,λ hl hm=>h2 (by simpa using hl) hm⟩
 | [],ss,L,k,s,h=>.inr ⟨h,λ _ hm=>by cases hm⟩
 | .r _::_,[],L,k,s,h=>.inr ⟨h,λ hl=>by simp at hl⟩
 | .d _::_,[],L,k,s,h=>.inr ⟨h,λ hl=>by simp at hl⟩
section
variable {G F H:Hp}{ow:Addr->Option Path}{σ:L2.St}{L:LS}{xs:List Av}{vs:List V}
def owIn (ow:Addr->Option Path)(xs:List Av):Addr->Option Path:=λ a=>match ow a with
 | some ((r+1)::q)=>(posR xs r).map λ j=>(j+1)::q
 | _=>none
def gIn (G F H:Hp)(oc:Addr->Option Path):Hp:=λ a=>if(oc a).isSome then none else if(F a).isSome then none else H a
def owOut (ow oc oc':Addr->Option Path)(xs:List Av):Addr->Option Path:=λ a=>match oc' a with
 | some (0::q)=>some (0::q)
 | some ((j+1)::q)=>(match xs[j]? with
  | some (.r i)=>some ((i+1)::q)
  | _=>none)
 | some []=>none
 | none=>if(oc a).isSome then none else ow a
theorem rG {a:Addr}{p:Path}(h:owIn ow xs a=some p):∃ r q j,ow a=some ((r+1)::q)/\posR xs r=some j/\p=(j+1)::q:=by
 unfold owIn at h
 split at h
 ·rename_i r q e
  obtain⟨j,h1,h2⟩:=Option.map_eq_some_iff.mp h;exact⟨r,q,j,e,h1,h2.symm⟩
 ·cases h
theorem aiZ {a:Addr}{r j:Nat}{q:Path}(h:ow a=some ((r+1)::q))(hp:posR xs r=some j):owIn ow xs a=some ((j+1)::q):=by
 unfold owIn;rw[h];show(posR xs r).map _=_;rw[hp]
 rfl
theorem ai0 {a:Addr}{r:Nat}{q:Path}(h:ow a=some ((r+1)::q))(hp:posR xs r=none):owIn ow xs a=none:=by
 unfold owIn;rw[h];show(posR xs r).map _=_;rw[hp]
 rfl
theorem agj {a:Addr}{o:HO}{oc:Addr->Option Path}(h:gIn G F H oc a=some o):oc a=none/\F a=none/\H a=some o:=by
 unfold gIn at h
 split at h
 ·cases h
 ·split at h
  ·cases h
  ·rename_i h1 h2
   refine⟨?_,?_,h⟩
   ·cases e:oc a with
    | none=>rfl
    | some p=>rw[e]at h1;exact absurd rfl h1
   ·cases e:F a with
    | none=>rfl
    | some p=>rw[e]at h2;exact absurd rfl h2
theorem adD {a:Addr}{oc:Addr->Option Path}(h1:oc a=none)(h2:F a=none):gIn G F H oc a=H a:=by
 unfold gIn;rw[h1,h2]
 rfl
theorem AvOk.get {K:PySem.W.Frag}:∀ {xs:List Av} {vs:List V} {j:Nat} {x:Av},AvOk K σ F xs vs->xs[j]?=some x->∃ v,vs[j]?=some v/\match x with
  | .d d=>Dq K F v d
  | .r i=>σ[i]?=some (some v)
 | _,_,_,_,.nil,h=>by cases h
 | _,_,0,x,.cons r _,h=>by
  cases h
  exact⟨_,rfl,r⟩
 | _::xs,_::vs,j+1,x,.cons _ t,h=>AvOk.get (xs:=xs) (vs:=vs) (j:=j) (x:=x) t h
theorem Rl.callIn (Rr:c.Rl G F ow σ H L)(av:AvOk c.X.K σ F xs vs)(nd:(refs xs).Nodup):Rl c.X.K c.ca c.B [] (gIn G F H (owIn ow xs)) F (owIn ow xs) (vs.map some) H (xs.map (slotOf L)):=by
 refine⟨Rr.exF,λ a o h=>(agj h).2.2,λ a p h=>?_,λ a o h=>.inl ?_,?_,λ j s h=>?_,(λ i v h=>nomatch h),Rr.exB,λ a p h=>?_⟩
 ·obtain⟨r,q,j,h1,h2,h3⟩:=rG h;obtain⟨x,y,z⟩:=Rr.dF a _ h1;refine⟨x,?_,z⟩;unfold gIn;rw[h]
  rfl
 ·unfold gIn
  split
  ·rfl
  ·rw[h]<;>rfl
 ·rw[List.length_map,List.length_map];exact Paired.length av
 ·rw[List.getElem?_map]at h;obtain⟨x,hx,hs⟩:=Option.map_eq_some_iff.mp h;obtain⟨v,hv,q⟩:=AvOk.get (j:=j) (x:=x) av hx;refine⟨v,by rw[List.getElem?_map,hv];rfl,?_⟩
  cases x with
  | d d =>
   cases hs
   exact RT.of (.d q)
  | r i =>
   have hs':(L[i]?).join=some s:=hs
   have hL:L[i]?=some (some s):=by
    cases e:L[i]? with
    | none=>rw[e]at hs';cases hs'
    | some o=>rw[e]at hs';exact congrArg some hs'
   obtain⟨u,hu,rs⟩:=Rr.sl i s hL
   have q':σ[i]?=some (some v):=q
   rw[hu]at q'
   cases q'
   exact rs.go (Same.refl F) λ a w e=>⟨rfl,aiZ e (aaK nd hx)⟩
 ·obtain⟨r,q,j,h1,h2,h3⟩:=rG h;exact Rr.dB a _ h1
theorem Rl.callOut {F' H':Hp}{oc':Addr->Option Path}{ss:LS}(Rr:c.Rl G F ow σ H L)(av:AvOk c.X.K σ F xs vs)(nd:(refs xs).Nodup)(e:Same F F')
  (r':Rl c.X.K c.ca c.B [] (gIn G F H (owIn ow xs)) F' oc' (vs.map some) H' ss):c.Rl G F' (owOut ow (owIn ow xs) oc' xs) σ H' (putBack xs ss L)/\(refs xs=[]->Same H H') /\
   ∀ {s:S} {v:V},RS c.X.K c.ca F' H' oc' [0] s v->RS c.X.K c.ca F' H' (owOut ow (owIn ow xs) oc' xs) [0] s v:=by
 have hlen:ss.length=xs.length:=by
  have:=r'.len
  rw[List.length_map]at this;rw[this];exact(Paired.length av).symm
 have free:∀ {a:Addr} {p:Path},oc' a=some p->gIn G F H (owIn ow xs) a=none:=λ {a p} h=>(r'.dF a p h).2.1
 have gN:∀ {a:Addr} {o:HO},G a=some o->owIn ow xs a=none:=λ {a o} h=>by
  cases z:owIn ow xs a with
  | none=>rfl
  | some p =>
   obtain⟨r,q,j,w1,_,_⟩:=rG z
   have:=(Rr.dF a _ w1).2.1
   rw[h]at this
   cases this
 have gG:∀ {a:Addr} {o:HO},G a=some o->F a=none->gIn G F H (owIn ow xs) a=some o:=λ {a o} h h1=>by
  rw[adD (gN h) h1];exact Rr.exG a o h
 have gP:∀ {a:Addr} {o:HO},G a=some o->H' a=some o:=λ {a o} h=>by
  cases z:F a with
  | none=>exact r'.exG a o (gG h z)
  | some u =>
   have h1:=Rr.exF a u z
   rw[Rr.exG a o h]at h1;rw[h1];exact r'.exF a u (e a u z)
 have out_none:∀ {a:Addr} {p:Path},owOut ow (owIn ow xs) oc' xs a=some p->(∃ q,oc' a=some q)∨(oc' a=none/\owIn ow xs a=none/\ow a=some p):=λ {a p} h=>by
  cases z:oc' a with
  | some q=>exact .inl ⟨q,rfl⟩
  | none =>
   unfold owOut at h;rw[z]at h
   have h:(if(owIn ow xs a).isSome=true then none else ow a)=some p:=h
   split at h
   ·cases h
   ·rename_i h1
    refine .inr ⟨rfl,?_,h⟩
    cases y:owIn ow xs a with
    | none=>rfl
    | some w=>rw[y]at h1;exact absurd rfl h1
 -- what was not handed in stays
 have stay:∀ {a:Addr} {p:Path},ow a=some p->owIn ow xs a=none->H' a=H a/\owOut ow (owIn ow xs) oc' xs a=some p/\oc' a=none/\F' a=none:=λ {a p} h hn=>by
  obtain⟨x,y,z⟩:=Rr.dF a p h
  have hg:gIn G F H (owIn ow xs) a=H a:=adD hn x
  cases hH:H a with
  | none=>exact absurd hH z.1
  | some o =>
   rw[hH]at hg
   have h1:oc' a=none:=by
    cases w:oc' a with
    | none=>rfl
    | some q =>
     have:=free w
     rw[hg]at this
     cases this
   refine⟨r'.exG a o hg,?_,h1,?_⟩
   ·unfold owOut;rw[h1,hn];exact h
   ·cases w:F' a with
    | none=>rfl
    | some u =>
     have hu:H' a=some u:=r'.exF a u w
     rw[r'.exG a o hg]at hu
     cases hu
     rcases r'.dG a o w with this | this
     ·rw[hg]at this
      cases this
     ·exact absurd this (z.2 o hH)
 refine⟨⟨r'.exF,λ a o h=>gP h,λ a p h=>?_,λ a o h=>?_,by rw[qD];exact Rr.len,λ k s h=>?_,Rr.pin,r'.exB,λ a p h=>?_⟩,λ hr a o h=>?_,λ {s v} h=>?_⟩
 ·rcases out_none h with ⟨q,h1⟩ | ⟨h1,h2,h3⟩
  ·obtain⟨x,y,z⟩:=r'.dF a q h1;refine⟨x,?_,z⟩
   cases w:G a with
   | none=>rfl
   | some o =>
    cases zf:F a with
    | none =>
     have:=gG w zf
     rw[y]at this
     cases this
    | some u =>
     have:=e a u zf
     rw[x]at this
     cases this
  ·obtain⟨x,y,z⟩:=Rr.dF a p h3;obtain⟨w1,w2,w3,w4⟩:=stay h3 h2;exact⟨w4,y,by rw[w1];exact z⟩
 ·rcases r'.dG a o h with this | this
  ·cases w:G a with
   | none=>exact .inl rfl
   | some u =>
    cases zf:F a with
    | none =>
     have q:=gG w zf
     rw[this]at q
     cases q
    | some t =>
     have q:=e a t zf
     rw[h]at q
     cases q
     rcases Rr.dG a o zf with z | z
     ·rw[w]at z
      cases z
     ·exact .inr z
  ·exact .inr this
 ·rcases qF h with ⟨j,h1,h2⟩ | ⟨h1,h2⟩
  ·obtain⟨v,hv,rs⟩:=r'.sl j s h2;obtain⟨u,hu,q⟩:=AvOk.get (j:=j) (x:=.r k) av h1;rw[List.getElem?_map,hu]at hv
   cases hv
   refine⟨v,q,rs.go (Same.refl F') λ a w e=>⟨rfl,?_⟩⟩;unfold owOut;rw[e]
   show(match xs[j]? with
    | some (.r i)=>some ((i+1)::w)
    | _=>none)=_
   rw[h1]
   rfl
  ·obtain⟨v,hv,rs⟩:=Rr.sl k s h1
   have hk:=h2 hlen
   have hp:posR xs k=none:=by
    cases z:posR xs k with
    | none=>rfl
    | some j=>exact absurd (rF (xU z)) hk
   refine⟨v,hv,rs.go e λ a w z=>?_⟩;obtain⟨w1,w2,_,_⟩:=stay z (ai0 z hp);exact⟨w1,w2⟩
 ·rcases out_none h with ⟨q,h1⟩ | ⟨h1,h2,h3⟩
  ·exact r'.dB a q h1
  ·exact Rr.dB a p h3
 ·cases w:F a with
  | some u =>
   have:=Rr.exF a u w
   rw[h]at this
   cases this
   exact r'.exF a o (e a o w)
  | none =>
   have hn:owIn ow xs a=none:=by
    cases z:owIn ow xs a with
    | none=>rfl
    | some p =>
     obtain⟨r,q,j,_,w2,_⟩:=rG z
     have:=rF (xU w2)
     rw[hr]at this
     cases this
   refine r'.exG a o ?_;rw[adD hn w];exact h
 ·refine h.go (Same.refl F') λ a w z=>⟨rfl,?_⟩;unfold owOut;rw[z]
  rfl
end
theorem ai1 {k:Nat}{f:Addr}{fd:FuncData}{ps:List Str}{md:List Bool}{m:LS->R S}{x:Str}{p:Pos}{e:Expr}(F:FnOk c.X.prog c.X.w c.X.K c.X.mg c.X.base (L2.CX c.X.prog c.X.w) k f fd ps (VSp c.X.K c.ca md m))(hr:Room k c.X.A)(tk:Takes c.X c.W)
  (hg:Gl c.X x) (hm:c.X.mg x=some (.ref f)) (hk:PySem.W.keepIn c.X.K (.ref f)=true) (hb:Binds c.X.K fd ps []) (ha:JAr c n (e::es) as) (hl:as.length=md.length:=by rfl)
  (hdb:(x == ("__debug__":Str))=false:=by decide) (he:starEach (e::es) c.X.env=(false,eval e c.X.env)::starEach es c.X.env:=by rfl) (hpl:(backTo pos (starEach es c.X.env)).any (·.1)=false:=by rfl) :
  JE c (n&&allD as) (.Call (.Name x p) (e::es) [] pos) (gCall m as):=by
 obtain⟨t,pa,qa⟩:=ha;refine⟨_,pe_callS F hr hg hm hk hb (λ σ=>passAt tk σ) pa hdb he hpl,λ G F0 ow σ H L Rr=>?_⟩;refine(qa G F0 ow σ H L Rr).bind (t2:=λ vs H1 Q=>VSp c.X.K c.ca md m vs H1 Q (WE c.W σ)) λ xs L1 vs H1 F1 ow1 hev e1 _ R1 b1=>?_;obtain⟨av,hn⟩:=b1;refine Post.guard λ nd=>?_
 have hxl:xs.length=md.length:=by
  rw[←hl]
  clear hl hn av R1 Rr
  have ev:∀ (as:List Ar) (L L1:LS) (xs:List Av),evArgs as L=.ok xs L1->xs.length=as.length:=by
   intro as
   induction as with
   | nil =>
    intro L L1 xs h
    cases h
    rfl
   | cons a as ih =>
    intro L L1 xs h
    cases a with
    | d g =>
     have h:((g L).bind λ d L1=>(evArgs as L1).bind λ xs L2=>.ok (.d d::xs) L2)=.ok xs L1:=h
     cases hg:g L with
     | stuck=>rw[hg]at h;cases h
     | err k L2=>rw[hg]at h;cases h
     | ok d L2 =>
      rw[hg,R.bind_ok]at h
      cases hg2:evArgs as L2 with
      | stuck=>rw[hg2]at h;cases h
      | err k L3=>rw[hg2]at h;cases h
      | ok ys L3 =>
       have:=ih L2 L3 ys hg2
       rw[hg2,R.bind_ok]at h
       cases h
       simp[this]
    | r i =>
     unfold evArgs at h
     split at h
     ·cases hg2:evArgs as L with
      | stuck=>rw[hg2]at h;cases h
      | err k L3=>rw[hg2]at h;cases h
      | ok ys L3 =>
       have:=ih L L3 ys hg2
       rw[hg2,R.bind_ok]at h
       cases h
       simp[this]
     ·cases h
  exact ev as L L1 xs hev
 have rin:=R1.callIn av nd
 unfold callAt
 cases hm':m (xs.map (slotOf L1)) with
 | stuck=>trivial
 | ok s ss =>
  intro Q q;refine⟨c.B,_,F1,_,xs.map (slotOf L1),by rw[List.length_map];exact hxl,rin,?_⟩;rw[hm'];intro v H' F' ow' e' r' rs;obtain⟨w1,w2,w3⟩:=R1.callOut av nd e' r';exact q v H' F' _ e' (λ h=>w2 (hn h)) w1 (w3 rs)
 | err er ss =>
  intro hw Q;refine⟨c.B,_,F1,_,xs.map (slotOf L1),by rw[List.length_map];exact hxl,rin,?_⟩;rw[hm'];intro H' F' ow' e' r';obtain⟨w1,w2,w3⟩:=R1.callOut av nd e' r';exact hw H' F' _ e' w1
end
def wipeL (L:LS):List Nat->LS
 | []=>L
 | v::vs=>(wipeL L vs).set v none
theorem zF (L:LS):∀ vs:List Nat,(wipeL L vs).length=L.length
 | []=>rfl
 | v::vs=>by
  show((wipeL L vs).set v none).length=_;rw[List.length_set,zF L vs]
theorem iD {L:LS}{i:Nat}{x:S}:∀ {vs:List Nat},(wipeL L vs)[i]?=some (some x)->L[i]?=some (some x)/\i∉vs
 | [],h=>⟨h,by simp⟩
 | v::vs,h=>by
  rcases jJ (show((wipeL L vs).set v none)[i]?=some (some x) from h) with ⟨_,h1⟩ | ⟨h1,h2⟩
  ·cases h1
  ·obtain⟨h3,h4⟩:=iD h2;exact⟨h3,by simp only[List.mem_cons,not_or];exact⟨λ e=>h1 e.symm,h4⟩⟩
theorem iT {σ:L2.St}{i:Nat}:∀ {vs:List Nat},i∉vs->(wipe σ vs)[i]?=σ[i]?
 | [],_=>rfl
 | v::vs,h=>by
  simp only[List.mem_cons,not_or]at h
  show((wipe σ vs).set v none)[i]?=_;rw[List.getElem?_set_ne (λ e=>h.1 e.symm),iT h.2]
theorem aaL {σ:L2.St}{i:Nat}:∀ {vs:List Nat},i∈vs->i < σ.length->(wipe σ vs)[i]?=some none
 | v::vs,h,hl=>by
  show((wipe σ vs).set v none)[i]?=_
  by_cases e:v=i
  ·subst e
   rw[List.getElem?_set_self (by rw[wipe_length];exact hl)]
  ·rw[List.getElem?_set_ne e];rcases List.mem_cons.mp h with z | z
   ·exact absurd z.symm e
   ·exact aaL z hl
theorem rH {σ σ':L2.St}{vs ws:List Nat}(o:OutOf ws (wipe σ vs) σ')(hw:∀ k∈ws,k∈vs):wipe σ' vs=wipe σ vs:=by
 have hl:σ'.length=σ.length:=by rw[o.1,wipe_length]
 apply List.ext_getElem?
 intro k
 by_cases hk:k∈vs
 ·by_cases hlt:k < σ.length
  ·rw[aaL hk (by omega),aaL hk hlt]
  ·rw[List.getElem?_eq_none (by rw[wipe_length];omega),List.getElem?_eq_none (by rw[wipe_length];omega)]
 ·rw[iT hk,o.2 k λ z=>hk (hw k z)]
def lcGo (vs:List Nat)(f:D->LS->Option LS)(gt:LS->R Bool)(ge:LS->R D):List D->List D->LS->R S
 | [],acc,L=>.ok (.ol acc) L
 | d::ds,acc,L=>match f d L with
  | none=>.stuck
  | some L1=>match gt L1 with
   | .ok b L2=>if b=true then(match ge L2 with
     | .ok y L3=>if acc.length < sizeLine then lcGo vs f gt ge ds (acc++[y]) (wipeL L3 vs) else .stuck
     | _=>.stuck) else lcGo vs f gt ge ds acc (wipeL L2 vs)
   | _=>.stuck
theorem uF {vs:List Nat}{f:D->LS->Option LS}{gt:LS->R Bool}{ge:LS->R D}{k:Nat}{L':LS}:∀ (ds acc:List D) (L:LS),lcGo vs f gt ge ds acc L≠.err k L'
 | [],acc,L,h=>by cases h
 | d::ds,acc,L,h=>by
  unfold lcGo at h
  split at h
  ·cases h
  ·split at h
   ·split at h
    ·split at h
     ·split at h
      ·exact uF ds _ _ h
      ·cases h
     ·cases h
    ·exact uF ds _ _ h
   ·cases h
def gLc (vs:List Nat)(gi:LS->R (List D))(f:D->LS->Option LS)(gt:LS->R Bool)(ge:LS->R D):LS->R S:=λ L=>(gi L).bind λ ds L1=>lcGo vs f gt ge ds [] (wipeL L1 vs)
structure Bk where
 s:Shared
 H:Hp
 C:Addr
 cl:List (Str×Addr)
 fp:List Addr
abbrev Ct.low (c:Ct):Ct:={ c with W:=λ _ _ _ _=>False }
abbrev Ct.blk (c:Ct)(scope:Scope)(b:Bk):Ct:={ c with X:=c.X.blk b.s b.H scope (compEnvC scope b.cl b.C c.X.env) b.fp,W:=λ _ _ _ _=>False }
def JTs (c:Ct)(n:Bool)(ifs:List Expr)(g:LS->R Bool):Prop:=∃ t,PTs c.X ifs t/\Jdg c n g BB t
section
variable {c:Ct}{n n1 n2 n3:Bool}{scope:Scope}
def gYes:LS->R Bool:=λ L=>.ok true L
theorem qG:JTs c true [] gYes:=⟨_,pts_nil,λ G F ow σ H L Rr=>Post.val (b:=true) (B:=BB c.X.K) Rr rfl⟩
theorem adE {α β:Type}{g:LS->R α}{B:PySem.W.Frag->Hp->Hp->(Addr->Option Path)->α->β->Prop}(T:Bk->L2.St->Hp->(β->Hp->Prop)->Prop)(h:∀ b,Jdg c.low n g B (T b)):Jdg c.low n g B (λ σ H Q=>∀ b,T b σ H Q):=by
 intro G F ow σ H L Rr
 have k:=λ b=>h b G F ow σ H L Rr
 cases hr:g L with
 | stuck=>trivial
 | ok a L1 =>
  intro Q q b
  have:=k b
  rw[hr]at this
  exact this Q q
 | err e L1 =>
  intro hw Q b
  have:=k b
  rw[hr]at this
  exact this hw Q
theorem aii {e:Expr}{g:LS->R D}(h:∀ b,JD (c.blk scope b) n e g):∃ t,(∀ b,PE (c.blk scope b).X e t)/\Jdg c.low n g BD t:=by
 refine⟨λ σ H Q=>∀ b,Classical.choose (h b) σ H Q,λ b=>⟨λ pins s σ H Q I hw=>(Classical.choose_spec (h b)).1.run pins s σ H Q I (hw b)⟩,?_⟩;exact adE _ λ b=>(Classical.choose_spec (h b)).2
theorem adF {e:List Expr}{g:LS->R Bool}(h:∀ b,JTs (c.blk scope b) n e g):∃ t,(∀ b,PTs (c.blk scope b).X e t)/\Jdg c.low n g BB t:=by
 refine⟨λ σ H Q=>∀ b,Classical.choose (h b) σ H Q,λ b=>⟨λ pins s σ H Q I hw=>(Classical.choose_spec (h b)).1.run pins s σ H Q I (hw b)⟩,?_⟩;exact adE _ λ b=>(Classical.choose_spec (h b)).2
theorem adG {tg:Expr}{ws:List Nat}{f:D->LS->Option LS}(h:∀ b,JG (c.blk scope b) tg ws f):∃ t,(∀ b,PG (c.blk scope b).X tg t) /\
  ∀ G F ow σ H L d v L',c.Rl G F ow σ H L->Dq c.X.K F v d->f d L=some L'->∀ Q:L2.St->Hp->Prop,(∀ σ',OutOf ws σ σ'->c.Rl G F ow σ' H L'->Q σ' H)->t v σ H Q:=by
 refine⟨λ v σ H Q=>∀ b,Classical.choose (h b) v σ H Q,λ b=>⟨λ pins s σ H v u Q I r hw=>(Classical.choose_spec (h b)).1.run pins s σ H v u Q I r (hw b)⟩,?_⟩;exact λ G F ow σ H L d v L' Rr q e Q k b=>(Classical.choose_spec (h b)).2 G F ow σ H L d v L' Rr q e Q k
section
variable {K:PySem.W.Frag}{ca:Nat->Addr}{bh:Hp}{pn:List (Option V)}{G F H:Hp}{ow:Addr->Option Path}{σ:L2.St}{L:LS}{vs:List Nat}{l:Addr}{o o':HO}
theorem Rl.wipe (r:Rl K ca bh pn G F ow σ H L)(hp:∀ (k:Nat) (v:V),pn[k]?=some (some v)->k∉vs):Rl K ca bh pn G F ow (L2.wipe σ vs) H (wipeL L vs) :=
 ⟨r.exF,r.exG,r.dF,r.dG,by rw[zF,wipe_length];exact r.len,λ i s h=>by
  obtain⟨h1,h2⟩:=iD h;obtain⟨v,q1,q2⟩:=r.sl i s h1
  exact⟨v,(iT h2).trans q1,q2⟩,λ i v h=>(iT (hp i v h)).trans (r.pin i v h),r.exB,r.dB⟩
theorem Rl.aside (r:Rl K ca bh pn G F ow σ H L)(hl:H l=none):Rl K ca bh pn (upd G l o) F ow σ (upd H l o) L:=by
 have e:Same H (upd H l o):=eX hl
 have fN:F l=none:=r.exF.free hl
 refine⟨r.exF.trans e,λ a u h=>?_,λ a q h=>?_,λ a u h=>?_,r.len,λ i s h=>?_,r.pin,r.exB.trans e,r.dB⟩
 ·by_cases z:a=l
  ·subst z
   rw[upd_same]at h ⊢;exact h
  ·rw[upd_ne z]at h ⊢;exact r.exG a u h
 ·obtain⟨x,y,w⟩:=r.dF a q h
  have ha:a≠l:=pG w.1 hl
  exact⟨x,by rw[upd_ne ha];exact y,by rw[upd_ne ha];exact w⟩
 ·rw[upd_ne (ne_of_none h fN)];exact r.dG a u h
 ·obtain⟨v,q1,q2⟩:=r.sl i s h;exact⟨v,q1,q2.go (Same.refl F) λ a w h=>⟨upd_ne (pG (r.dF a _ h).2.2.1 hl),h⟩⟩
theorem adH {a:Addr}{u:HO}(h:upd G l o a=none):a≠l:=λ z=>by
 subst z
 rw[upd_same]at h
 cases h
theorem Rl.asideSet (r:Rl K ca bh pn (upd G l o) F ow σ H L)(hb:bh l=none)(ho:¬ kT o:=by exact kT_lst):Rl K ca bh pn (upd G l o') F ow σ (upd H l o') L:=by
 have fN:F l=none:=by
  cases z:F l with
  | none=>rfl
  | some u =>
   rcases r.dG l u z with this | this
   ·rw[upd_same]at this
    cases this
   ·have h1:=r.exF l u z
    rw[r.exG l o upd_same]at h1
    cases h1
    exact absurd this ho
 refine⟨λ a u h=>?_,λ a u h=>?_,λ a q h=>?_,λ a u h=>?_,r.len,λ i s h=>?_,r.pin,λ a u h=>?_,r.dB⟩
 ·rw[upd_ne (ne_of_none h fN)];exact r.exF a u h
 ·by_cases z:a=l
  ·subst z
   rw[upd_same]at h ⊢;exact h
  ·rw[upd_ne z]at h ⊢;exact r.exG a u (by rw[upd_ne z];exact h)
 ·obtain⟨x,y,w⟩:=r.dF a q h
  have ha:a≠l:=adH (u:=o) y
  rw[upd_ne ha]at y ⊢;exact⟨x,y,by rw[upd_ne ha];exact w⟩
 ·have ha:a≠l:=ne_of_none h fN
  have:=r.dG a u h
  rw[upd_ne ha]at this ⊢;exact this
 ·obtain⟨v,q1,q2⟩:=r.sl i s h;refine⟨v,q1,q2.go (Same.refl F) λ a w h=>⟨upd_ne ?_,h⟩⟩;exact adH (u:=o) (r.dF a _ h).2.1
 ·rw[upd_ne (ne_of_none h hb)];exact r.exB a u h
theorem Rl.asideOut {σ':L2.St}(r:Rl K ca bh pn (upd G l o) F ow σ H L)(hG:G l=none)(hb:bh l=none)(hlen:σ'.length=σ.length)(hs:∀ (k:Nat) (s:S),L[k]?=some (some s)->σ'[k]?=σ[k]?)
  (hp:∀ (k:Nat) (v:V),pn[k]?=some (some v)->σ'[k]?=some (some v)) (ho:¬ kT o:=by exact kT_lst):Rl K ca bh pn G F (onAt ow l [0]) σ' H L:=by
 have hl:H l=some o:=r.exG l o upd_same
 have fN:F l=none:=by
  cases z:F l with
  | none=>rfl
  | some u =>
   rcases r.dG l u z with this | this
   ·rw[upd_same]at this
    cases this
   ·have h1:=r.exF l u z
    rw[r.exG l o upd_same]at h1
    cases h1
    exact absurd this ho
 refine⟨r.exF,λ a u h=>?_,λ a q h=>?_,λ a u h=>?_,r.len.trans hlen.symm,λ i s h=>?_,hp,r.exB,λ a q h=>?_⟩
 ·have ha:a≠l:=ne_of_none h hG
  exact r.exG a u (by rw[upd_ne ha];exact h)
 ·by_cases z:a=l
  ·subst z
   exact⟨fN,hG,by rw[hl];exact .of ho⟩
  ·rw[nA z]at h;obtain⟨x,y,w⟩:=r.dF a q h;rw[upd_ne z]at y;exact⟨x,y,w⟩
 ·have ha:a≠l:=ne_of_none h fN
  have:=r.dG a u h
  rw[upd_ne ha]at this;exact this
 ·obtain⟨v,q1,q2⟩:=r.sl i s h;refine⟨v,(hs i s h).trans q1,q2.go (Same.refl F) λ a w h=>⟨rfl,?_⟩⟩
  have ha:a≠l:=adH (u:=o) (r.dF a _ h).2.1
  rw[nA ha];exact h
 ·by_cases z:a=l
  ·subst z
   exact hb
  ·rw[nA z]at h;exact r.dB a q h
end
theorem aij {gi:LS->R (List D)}{f:D->LS->Option LS}{gt:LS->R Bool}{ge:LS->R D}{wi:TI}{g:TG}{tt:TT}{te:TE}{vs ws:List Nat}(hi:Jdg c n1 gi (BI c.B) wi)
  (hg:∀ G F ow σ H L d v L',c.Rl G F ow σ H L->Dq c.X.K F v d->f d L=some L'->∀ Q:L2.St->Hp->Prop,(∀ σ',OutOf ws σ σ'->c.Rl G F ow σ' H L'->Q σ' H)->g v σ H Q) (hws:∀ k∈ws,k∈vs) (hp:∀ k∈vs,c.free k)
  (ht:Jdg c.low n2 gt BB tt) (he:Jdg c.low n3 ge BD te):Jdg c (n1&&(n2&&n3)) (gLc vs gi f gt ge) (BE c.ca) (tLc wi g tt te vs):=by
 have hpn:∀ (k:Nat) (v:V),(pinOf c.pb c.v0)[k]?=some (some v)->k∉vs:=λ k v h hk=>hp k hk (lO h).1
 intro G F0 ow σ H0 L0 Rr
 refine(hi G F0 ow σ H0 L0 Rr).bind (t2:=λ J H1 (Q:VK)=>∀ D,H1 D=none->∃ W:Nat->Nat->Hp->Prop,(∃ m,W 0 m (upd H1 D (.lst [])))/\∀ i m H,W i m H ->
  (J.stop i H/\Q (V.ref D) H)∨(J.go i H/\∃ Nx:Hp->Prop,(∀ H',Nx H'->∃ m',m' < m/\W (i+1) m' H')/\∀ x H',J.yld i H x H'->g x (L2.wipe σ vs) H' λ σ2 H2=>L2.wipe σ2 vs=L2.wipe σ vs/\tt σ2 H2 λ b H3 =>
   if b=true then te σ2 H3 λ y H4=>∃ acc,H4 D=some (.lst acc)/\acc.length < sizeLine/\Nx (upd H4 D (.lst (acc++[y]))) else Nx H3)) λ ds L1 J H1 F1 ow1 _ e1 s1 R1 b1=>?_
 cases hr:lcGo vs f gt ge ds [] (wipeL L1 vs) with
 | stuck=>trivial
 | err k L2=>exact absurd hr (uF ds [] _)
 | ok s Lf =>
  intro Q q D hD
  have gD:G D=none:=R1.exG.free hD
  have hB:c.B D=none:=R1.exB.free hD
  refine⟨λ i m H=>m=ds.length - i/\i<=ds.length/\∃ F' ow' L' acc da,Same F1 F'/\((n2&&n3)=true->Same H1 H)/\c.Rl (upd G D (.lst acc)) F' ow' (L2.wipe σ vs) H L'/\DqA c.X.K F' acc da/\lcGo vs f gt ge (ds.drop i) da L'=.ok s Lf/\∀ (k:Nat) (s':S),L'[k]?=some (some s')->k∉vs,
   ⟨ds.length,rfl,Nat.zero_le _,F1,ow1,wipeL L1 vs,[],[],Same.refl F1,λ _=>eX hD,(R1.wipe hpn).aside hD,.nil,hr,λ k s' h=>(iD h).2⟩,?_⟩
  rintro i m H ⟨rfl,hi',F2,ow2,LB,acc,da,e2,s2,R2,hacc,hgo,hno⟩;obtain⟨k1,k2⟩:=(ItOk.up e2 b1) i H R2.exF R2.exB
  by_cases hlt:i < ds.length
  ·obtain⟨k3,k4⟩:=k2 _ (List.getElem?_eq_getElem hlt);rw[List.drop_eq_getElem_cons hlt]at hgo
   refine .inr ⟨k3,λ H'=>∃ F' ow' L' acc da,Same F1 F'/\((n2&&n3)=true->Same H1 H')/\c.Rl (upd G D (.lst acc)) F' ow' (L2.wipe σ vs) H' L'/\DqA c.X.K F' acc da/\lcGo vs f gt ge (ds.drop (i+1)) da L'=.ok s Lf/\∀ (k:Nat) (s':S),L'[k]?=some (some s')->k∉vs,
    λ H' w=>⟨ds.length - (i+1),by omega,rfl,hlt,w⟩,λ x H' y=>?_⟩
   have step:∀ {F3 H3:Hp},Same F2 F3->Same H H3->c.Rl (upd G D (.lst acc)) F3 ow2 (L2.wipe σ vs) H3 LB->Dq c.X.K F3 x ds[i]->g x (L2.wipe σ vs) H3 λ σ2 H2=>L2.wipe σ2 vs=L2.wipe σ vs/\tt σ2 H2 λ b H3 =>
     if b=true then te σ2 H3 λ y H4=>∃ acc,H4 D=some (.lst acc)/\acc.length < sizeLine/\∃ F' ow' L' acc' da,Same F1 F'/\((n2&&n3)=true->Same H1 (upd H4 D (.lst (acc++[y]))))/\c.Rl (upd G D (.lst acc')) F' ow' (L2.wipe σ vs) (upd H4 D (.lst (acc++[y]))) L'/\DqA c.X.K F' acc' da/\lcGo vs f gt ge (ds.drop (i+1)) da L'=.ok s Lf/\∀ (k:Nat) (s':S),L'[k]?=some (some s')->k∉vs
     else ∃ F' ow' L' acc da,Same F1 F'/\((n2&&n3)=true->Same H1 H3)/\c.Rl (upd G D (.lst acc)) F' ow' (L2.wipe σ vs) H3 L'/\DqA c.X.K F' acc da/\lcGo vs f gt ge (ds.drop (i+1)) da L'=.ok s Lf/\∀ (k:Nat) (s':S),L'[k]?=some (some s')->k∉vs:=λ {F3 H3} e3 s3 R3 hx=>by
    unfold lcGo at hgo
    cases hf:f ds[i] LB with
    | none=>rw[hf]at hgo;cases hgo
    | some L3 =>
     rw[hf]at hgo;refine hg _ F3 ow2 _ H3 LB _ x L3 R3 hx hf _ λ σ2 o2 R4=>⟨rH o2 hws,?_⟩
     have wp:=rH o2 hws
     have hgo:(match gt L3 with
      | .ok b L2=>if b=true then(match ge L2 with
        | .ok y L3=>if da.length < sizeLine then lcGo vs f gt ge (ds.drop (i+1)) (da++[y]) (wipeL L3 vs) else .stuck
        | _=>.stuck) else lcGo vs f gt ge (ds.drop (i+1)) da (wipeL L2 vs)
      | _=>.stuck)=R.ok s Lf:=hgo
     have pt:=ht _ F3 ow2 σ2 H3 L3 R4
     cases hgt:gt L3 with
     | stuck=>rw[hgt]at hgo;cases hgo
     | err k L5=>rw[hgt]at hgo;cases hgo
     | ok b L5 =>
      rw[hgt]at hgo pt;refine pt _ λ b' H5 F5 ow5 e5 s5 R5 q5=>?_
      have q5:b'=b:=q5
      subst q5
      cases b' with
      | false =>
       refine⟨F5,ow5,wipeL L5 vs,acc,da,(e2.trans e3).trans e5,λ h=>((s2 h).trans s3).trans (s5 (and_of h).1),?_,(hacc.up e3).up e5,hgo,λ k s' h=>(iD h).2⟩
       have:=R5.wipe (vs:=vs) hpn
       rw[wp]at this;exact this
      | true =>
       have hgo:(match ge L5 with
        | .ok y L3=>if da.length < sizeLine then lcGo vs f gt ge (ds.drop (i+1)) (da++[y]) (wipeL L3 vs) else .stuck
        | _=>.stuck)=R.ok s Lf:=hgo
       have pe:=he _ F5 ow5 σ2 H5 L5 R5
       cases hge:ge L5 with
       | stuck=>rw[hge]at hgo;cases hgo
       | err k L6=>rw[hge]at hgo;cases hgo
       | ok y L6 =>
        rw[hge]at hgo pe;refine pe _ λ v H6 F6 ow6 e6 s6 R6 q6=>?_
        have hgo:(if da.length < sizeLine then lcGo vs f gt ge (ds.drop (i+1)) (da++[y]) (wipeL L6 vs) else .stuck)=R.ok s Lf:=hgo
        by_cases hz:da.length < sizeLine
        ·rw[if_pos hz]at hgo
         have hH:H6 D=some (.lst acc):=R6.exG D _ upd_same
         have hacc6:=(((hacc.up e3).up e5).up e6)
         refine⟨acc,hH,by rw[hacc.len];exact hz,F6,ow6,wipeL L6 vs,acc++[v],da++[y],((e2.trans e3).trans e5).trans e6,λ h=>?_,?_,hacc6.append (.one q6),hgo,λ k s' h=>(iD h).2⟩
         ·have:=(((s2 h).trans s3).trans (s5 (and_of h).1)).trans (s6 (and_of h).2)
          intro a u ha;rw[upd_ne (ne_of_none ha hD)];exact this a u ha
         ·have:=(R6.wipe (vs:=vs) hpn).asideSet (o':=.lst (acc++[v])) hB
          rw[wp]at this;exact this
        ·rw[if_neg hz]at hgo
         cases hgo
   rcases k4 x H' y with ⟨rfl,hx⟩ | ⟨p,ts,es,he',rfl,hp',rfl,hq⟩
   ·exact step (Same.refl F2) (Same.refl _) R2 hx
   ·obtain⟨w1,w2,w3⟩:=R2.newF (o:=.tup ts) hp';rw[he']at step;exact step w1 w2 w3 (.tup upd_same (hq.up w1))
  ·have hl:ds.length<=i:=Nat.le_of_not_lt hlt
   rw[List.drop_eq_nil_of_le hl]at hgo
   cases hgo
   refine .inl ⟨k1 hl,q _ H F2 _ e2 s2 (R2.asideOut (σ':=σ) gD hB (wipe_length σ vs).symm (λ k s' h=>(iT (hno k s' h)).symm) λ k v h=>?_) (.ol (R2.exG D _ upd_same) (qX ..) hacc)⟩;rw[←iT (σ:=σ) (hpn k v h)];exact R2.pin k v h
variable {elt tg iter:Expr}{ifs:List Expr}{own:List (Str×Nat)}{pos spos:Pos}{gi:LS->R (List D)}{f:D->LS->Option LS}{gt:LS->R Bool}{ge:LS->R D}{ws:List Nat}
theorem alo (hc:c.X.calm=true)(hN:c.X.N.Nodup)(hi:JI c n1 tg iter gi)(ok:BlkOk c.X.N c.X.env.scope scope own)(hg:∀ b,JG (c.blk scope b) tg ws f)(hws:∀ k∈ws,k∈own.map (·.2))(hp:∀ k∈own.map (·.2),c.free k)
  (ht:∀ b,JTs (c.blk scope b) n2 ifs gt) (he:∀ b,JD (c.blk scope b) n3 elt ge) (hs:∀ x,foldedSetIterable iter c.X.env x=pure x:=by intro _;rfl):JE c (n1&&(n2&&n3)) (.ListComp elt [⟨tg,iter,ifs,0⟩] scope pos) (gLc (own.map (·.2)) gi f gt ge):=by
 obtain⟨wi,p1,q1⟩:=hi;obtain⟨tg',p2,q2⟩:=adG hg;obtain⟨tt,p3,q3⟩:=adF ht;obtain⟨te,p4,q4⟩:=aii he;exact⟨_,pe_lc hc hN p1 ok (λ s H C cl fp=>p2 ⟨s,H,C,cl,fp⟩) (λ s H C cl fp=>p3 ⟨s,H,C,cl,fp⟩) (λ s H C cl fp=>p4 ⟨s,H,C,cl,fp⟩) hs,aij q1 q2 hws hp q3 q4⟩
theorem xV {i:Nat}{y:Str}{py:Pos}(hc:c.X.calm=true)(hN:c.X.N.Nodup)(hy:c.X.N[i]?=some y)(hyl:c.X.env.scope.names.lookup y=some .local)(hfr:c.free i)
  (hsw:swapsWith (.ListComp elt [⟨tg,iter,ifs,0⟩] scope pos) (some (.Name y py)) spos.line c.X.env=pure true) (hi:JI c n1 tg iter gi) (ok:BlkOk c.X.N c.X.env.scope scope own) (hg:∀ b,JG (c.blk scope b) tg ws f) (hws:∀ k∈ws,k∈own.map (·.2)) (hp:∀ k∈own.map (·.2),c.free k)
  (ht:∀ b,JTs (c.blk scope b) n2 ifs gt) (he:∀ b,JD (c.blk scope b) n3 elt ge) (hs:∀ x,foldedSetIterable iter c.X.env x=pure x:=by intro _;rfl):JS c (.Assign [.Name y py] (.ListComp elt [⟨tg,iter,ifs,0⟩] scope pos) spos) (gAsg i (gLc (own.map (·.2)) gi f gt ge)):=by
 obtain⟨wi,p1,q1⟩:=hi;obtain⟨tg',p2,q2⟩:=adG hg;obtain⟨tt,p3,q3⟩:=adF ht;obtain⟨te,p4,q4⟩:=aii he;exact⟨_,ps_setLc hc hN hy hyl hsw p1 ok (λ s H C cl fp=>p2 ⟨s,H,C,cl,fp⟩) (λ s H C cl fp=>p3 ⟨s,H,C,cl,fp⟩) (λ s H C cl fp=>p4 ⟨s,H,C,cl,fp⟩) hs,rA hfr (aij q1 q2 hws hp q3 q4)⟩
end
section
variable {c:Ct}{pos:Pos}
def gRaise (e:Nat):LS->R O:=λ L=>.err e L
theorem agk {k:Nat}{e:Expr}(hc:c.X.calm=true)(tk:Takes c.X c.W)(he:PMk c.X e (λ _ H Q=>Q (.ref (c.ca k)) none H)):JS c (.Raise (some e) none pos) (gRaise k) :=
 ⟨_,ps_raise hc tk he,λ G F ow σ H L Rr E f=>f σ H F ow (Same.refl F) Rr⟩
end
theorem BV.dp {K:PySem.W.Frag}{F H:Hp}{ow:Addr->Option Path}{d:D}{v:V}(s:Same F H)(h:BV K F H ow d v):Dp K H v d:=by
 rcases h with h | ⟨l,vs,ds,rfl,rfl,h1,h2⟩
 ·exact(h.up s).dp
 ·exact .lst h1 (DqA.dp ds vs (h2.up s))
def Leaf2V (K:PySem.W.Frag)(r:R2)(f:D->D->Option D):Prop :=
 ∀ (F H:Hp) (ow:Addr->Option Path) (x y:V) (d e z:D),Same F H->BV K F H ow d x->BV K F H ow e y->f d e=some z->∃ v,Dq K F v z/\∀ Q:VK,Q v H->r x y H Q
theorem uQ.view {K:PySem.W.Frag}{r:R2}{f:D->D->Option D}(h:uQ K r f)(h1:∀ ds e,f (.list ds) e=none)(h2:∀ d es,f d (.list es)=none):Leaf2V K r f:=by
 intro F H ow x y d e z s hx hy hf
 rcases hx with hx | ⟨l,vs,ds,rfl,rfl,_,_⟩
 ·rcases hy with hy | ⟨l,vs,ds,rfl,rfl,_,_⟩
  ·exact h F H x y d e z s hx hy hf
  ·rw[h2]at hf
   cases hf
 ·rw[h1]at hf
  cases hf
theorem zG {d e:D}(h:scalD d e=true):(∀ ds,d≠.list ds)/\∀ ds,e≠.list ds:=by
 refine⟨λ ds z=>?_,λ ds z=>?_⟩
 ·subst z
  cases e<;>cases h
 ·subst z
  cases d<;>cases h
theorem agl {K:PySem.W.Frag}:Leaf2V K (λ x y H Q=>rEq x y H Q∨rEqD K x y H Q) dEq:=by
 intro F H ow x y d e z s hx hy hf
 unfold dEq at hf
 by_cases h:eqOk d e
 ·rw[if_pos h]at hf
  cases hf
  rcases h with h | h
  ·obtain⟨n1,n2⟩:=zG h
   rcases hx with hx | ⟨l,vs,ds,_,e1,_⟩
   ·rcases hy with hy | ⟨l,vs,ds,_,e1,_⟩
    ·obtain⟨h1,h2⟩:=adu hx hy h
     rw[h2]
     exact⟨_,.bl _,λ Q q=>.inl ⟨h1,q⟩⟩
    ·exact absurd e1 (n2 ds)
   ·exact absurd e1 (n1 ds)
  ·exact⟨_,.bl _,λ Q q=>.inr ⟨d,e,hx.dp s,hy.dp s,h.1,h.2,q⟩⟩
 ·rw[if_neg h]at hf
  cases hf
theorem agm {K:PySem.W.Frag}:Leaf2V K (λ x y H Q=>rNe x y H Q∨rNeD K x y H Q) dNe:=by
 intro F H ow x y d e z s hx hy hf
 unfold dNe at hf
 by_cases h:eqOk d e
 ·rw[if_pos h]at hf
  cases hf
  rcases h with h | h
  ·obtain⟨n1,n2⟩:=zG h
   rcases hx with hx | ⟨l,vs,ds,_,e1,_⟩
   ·rcases hy with hy | ⟨l,vs,ds,_,e1,_⟩
    ·obtain⟨h1,h2⟩:=adu hx hy h
     rw[h2]
     exact⟨_,.bl _,λ Q q=>.inl ⟨h1,q⟩⟩
    ·exact absurd e1 (n2 ds)
   ·exact absurd e1 (n1 ds)
  ·exact⟨_,.bl _,λ Q q=>.inr ⟨d,e,hx.dp s,hy.dp s,h.1,h.2,q⟩⟩
 ·rw[if_neg h]at hf
  cases hf
theorem abK {K:PySem.W.Frag}{F H:Hp}{ow:Addr->Option Path}{x y:V}{d e:D}{z:Bool}(s:Same F H)(hx:BV K F H ow d x)(hy:BV K F H ow e y)(hf:dInB d e=some z)(neg:Bool)(Q:VK)(q:Q (.bl (if neg then !z else z)) H) :
  (∃ (c:Nat) (w:Str),x=.str ⟨#[c]⟩/\y=.str w/\Q (.bl (if neg then !decide (c∈w.cps.toList) else decide (c∈w.cps.toList))) H) ∨
   (∃ d ds,Dp K H x d/\Dp K H y (.list ds)/\SeqAt.shaped d=true/\SeqAt.shaped (.list ds)=true/\Q (.bl (if neg then !ds.any (λ z=>PyData.eqv z d) else ds.any λ z=>PyData.eqv z d)) H)∨rIn K neg x y H Q:=by
 cases e with
 | list ds =>
  have hf:(if inOk d ds then some (ds.any λ z=>z.eqv d) else none)=some z:=hf
  by_cases h:inOk d ds
  ·rw[if_pos h]at hf
   cases hf
   rcases h with h | h
   ·rcases hx with hx | ⟨l,vs,ds',_,rfl,_⟩
    ·have hs:∃ l vs,y=.ref l/\SqL K H l vs/\DqA K F vs ds:=by
      rcases hy with hy | ⟨l,vs,ds',rfl,e1,h3,h4⟩
      ·cases hy with
       | lst a1 a2=>exact⟨_,_,rfl,.of (s _ _ a1),a2⟩
      ·cases e1
       exact⟨l,vs,rfl,h3,h4⟩
     obtain⟨l,vs,rfl,h3,h4⟩:=hs
     rw[←uU hx h.1 h4 h.2]at q
     exact .inr (.inr ⟨l,vs,rfl,.inl h3,uR hx h.1,qY h4 h.2,q⟩)
    ·cases h.1
   ·exact .inr (.inl ⟨d,ds,hx.dp s,hy.dp s,h.1,h.2,q⟩)
  ·rw[if_neg h]at hf
   cases hf
 | tuple ds =>
  rcases hy with hy | ⟨l,vs,ds,rfl,e,_,_⟩
  ·rcases hx with hx | ⟨l,vs,ds,rfl,rfl,_,_⟩
   ·exact adw s hx hy hf neg Q q
   ·cases hf
  ·cases e
 | str w =>
  rcases hy with hy | ⟨l,vs,ds,rfl,e,_,_⟩
  ·rcases hx with hx | ⟨l,vs,ds,rfl,rfl,_,_⟩
   ·exact adw s hx hy hf neg Q q
   ·cases hf
  ·cases e
 | _=>cases hf
theorem agn {K:PySem.W.Frag}:Leaf2V K (rInAny K) dIn:=by
 intro F H ow x y d e z s hx hy hf
 obtain⟨b,hb,rfl⟩:=Option.map_eq_some_iff.mp hf
 exact⟨_,.bl b,λ Q q=>abK s hx hy hb false Q q⟩
theorem aaM {K:PySem.W.Frag}:Leaf2V K (adx K) dNotIn:=by
 intro F H ow x y d e z s hx hy hf
 obtain⟨b,hb,rfl⟩:=Option.map_eq_some_iff.mp hf
 exact⟨_,.bl (!b),λ Q q=>abK s hx hy hb true Q q⟩
theorem ago {K:PySem.W.Frag}:Leaf2V K (λ x y H Q=>(y=.non/\Q (.bl (decide (x=.non))) H)∨aiT x y H Q) dIs:=by
 intro F H ow x y d e z s hx hy hf
 rcases hx with hx | ⟨l,vs,ds,rfl,rfl,_,_⟩
 ·rcases hy with hy | ⟨l,vs,ds,rfl,rfl,_,_⟩
  ·exact aiU F H x y d e z s hx hy hf
  ·cases d<;>cases hf
 ·rcases hy with hy | ⟨l,vs,ds,rfl,rfl,_,_⟩
  ·cases hy<;>cases hf
   exact⟨_,.bl _,λ Q q=>.inl ⟨rfl,q⟩⟩
  ·cases hf
section
variable {c:Ct}{n n1 n2 n3:Bool}{a b:Expr}{ga gb:LS->R D}{pos:Pos}{k:Nat}
def CmpV (c:Ct)(op:CmpOp)(f:D->D->Option D):Prop:=∃ r:R2,OpR c.X (compareOp op) r/\Leaf2V c.X.K r f
theorem abL {f:Int->Int->Bool}{g:Str->Str->Bool}(ds:List D)(e:D):dCmp f g (.list ds) e=none:=by cases e<;>rfl
theorem abM {f:Int->Int->Bool}{g:Str->Str->Bool}(d:D)(es:List D):dCmp f g d (.list es)=none:=by cases d<;>rfl
theorem aaN:CmpV c .Lt dLt:=⟨_,op_lt.or op_lt_str,ano.view abL abM⟩
theorem adI:CmpV c .LtE dLe:=⟨_,op_le.or op_le_str,ano.view abL abM⟩
theorem aaO:CmpV c .Gt dGt:=⟨_,op_gt.or op_gt_str,ano.view abL abM⟩
theorem anE:CmpV c .GtE dGe:=⟨_,op_ge.or op_ge_str,ano.view abL abM⟩
theorem lL (hr:Room k c.X.A):CmpV c .Eq dEq:=⟨_,op_eq.or (op_eqD hr.units),agl⟩
theorem ww (hr:Room k c.X.A):CmpV c .NotEq dNe:=⟨_,op_ne.or (op_neD hr.units),agm⟩
theorem adJ:CmpV c .Is dIs:=⟨_,op_isN.or age,ago⟩
theorem ai2 (hr:Room k c.X.A):CmpV c .In dIn:=⟨_,op_in_sign.or ((op_inD (aih hr)).or op_in_seq),agn⟩
theorem uG (hr:Room k c.X.A):CmpV c .NotIn dNotIn:=⟨_,op_notIn_sign.or ((op_notInD (aih hr)).or op_notIn_seq),aaM⟩
theorem abN {r:R2}{f:D->D->Option D}(lf:Leaf2V c.X.K r f){ta tb:TE}(ha:Jdg c n1 ga BV ta)(hb:Jdg c true gb BV tb):Jdg c n1 (gOp f ga gb) BD (tOp r ta tb):=by
 intro G F ow σ H L Rr;refine(ha G F ow σ H L Rr).bind1 (t2:=λ v H1 Q=>tb σ H1 λ y H2=>r v y H2 Q) λ d L1 v H1 F1 ow1 _ _ _ R1 b1=>?_;refine(hb G F1 ow1 σ H1 L1 R1).bind1 (t2:=λ y H2 Q=>r v y H2 Q) λ e L2 u H2 F2 ow2 _ e2 s2 R2 b2=>?_
 cases hf:f d e with
 | none=>trivial
 | some z =>
  obtain⟨w,hw,q⟩:=lf F2 H2 ow2 v u d e z R2.exF (BV.up (ow':=ow2) b1 e2 (s2 rfl)) b2 hf;exact(Post.val R2 hw).imp q
variable {op:CmpOp}{f:D->D->Option D}
theorem xW (h:CmpV c op f)(ha:JV c n1 a ga)(hb:JV c true b gb)(hm:behindInMarks op b=false):JD c n1 (.Compare a [op] [b] pos) (gOp f ga gb):=by
 obtain⟨ta,p1,q1⟩:=ha;obtain⟨tb,p2,q2⟩:=hb;obtain⟨r,h1,h2⟩:=h;exact⟨_,pe_cmpR h1 p1 p2 hm,abN h2 q1 q2⟩
theorem aG (h:CmpV c op f)(ha:JV c n1 a ga)(hb:JV c true b gb)(hm:behindInMarks op b=false):JT c n1 (.Compare a [op] [b] pos) (gB (gOp f ga gb)):=by
 obtain⟨ta,p1,q1⟩:=ha;obtain⟨tb,p2,q2⟩:=hb;obtain⟨r,h1,h2⟩:=h;exact⟨_,pt_cmpR h1 p1 p2 hm,agf (abN h2 q1 q2)⟩
theorem alp {X:Cx}{tg e:Expr}{w1 w2:TI}(h1:PI X tg e w1)(h2:PI X tg e w2):PI X tg e (λ σ H R=>w1 σ H R∨w2 σ H R):=⟨λ pins s σ H R I h=>by
 rcases h with h | h
 ·exact h1.run pins s σ H R I h
 ·exact h2.run pins s σ H R I h⟩
def signs (x:Str):List D:=x.cps.toList.map λ k=>PyData.str ⟨#[k]⟩
def fH:D->LS->R (List D)
 | .list ds,L=>.ok ds L
 | .tuple ds,L=>.ok ds L
 | .str x,L=>.ok (signs x) L
 | _,_=>.stuck
variable {tg:Expr}
theorem alq {K:PySem.W.Frag}{B F:Hp}{x:Str}:ItOk K B F (signs x) (Its x):=λ i H s _=>by
 unfold signs
 rw[List.length_map,Array.length_toList]
 refine⟨λ h=>h,λ d hd=>?_⟩
 have hi:i < x.cps.size:=by
  have:=(List.getElem?_eq_some_iff.mp hd).1
  rw[List.length_map,Array.length_toList]at this
  exact this
 refine⟨hi,λ v H' ⟨e1,k,hk,e2⟩=>.inl ⟨e1,?_⟩⟩
 subst e2
 rw[List.getElem?_map,Array.getElem?_toList,hk]at hd
 cases hd
 exact .str _
theorem ai3 {t:TE}(q:Jdg c n ga BD t):Jdg c n (λ L=>(ga L).bind asL) (BI c.B) (iList c.X.K t):=λ G F ow σ H L Rr =>
 (q G F ow σ H L Rr).bind1 (t2:=λ v H1 Q=>∃ a,v=V.ref a/\(∃ xs,SqL c.X.K H1 a xs)/\Q (Itl c.X.K a) H1) λ d L1 v H1 F1 ow1 _ _ _ R1 b1=>by
  cases b1 with
  | @lst l vs ds h1 h2 =>
   refine(Post.val (a:=ds) (b:=Itl c.X.K l) (B:=BI c.B c.X.K) R1 λ i H s _=>⟨λ hi=>⟨vs,.of (s _ _ h1),by rw[h2.len];exact hi⟩,λ d hd=>?_⟩).imp λ Q q=>⟨l,rfl,⟨vs,.of (R1.exF _ _ h1)⟩,q⟩;obtain⟨v,h3,h4⟩:=h2.get hd
   exact⟨⟨vs,v,.of (s _ _ h1),h3⟩,λ x H' ⟨e1,e2⟩=>.inl ⟨e1,by
    have:=e2 vs (.of (s _ _ h1))
    rw[h3]at this
    cases this
    exact h4⟩⟩
  | _=>trivial
theorem ai4 {t:TE}(q:Jdg c n ga BD t):Jdg c n (λ L=>(ga L).bind asT) (BI c.B) (iTup c.X.K t):=λ G F ow σ H L Rr =>
 (q G F ow σ H L Rr).bind1 (t2:=λ v H1 Q=>∃ a,v=V.ref a/\(∃ xs,SqT c.X.K H1 a xs)/\Q (Itt c.X.K a) H1) λ d L1 v H1 F1 ow1 _ _ _ R1 b1=>by
  cases b1 with
  | @tup l vs ds h1 h2 =>
   refine(Post.val (a:=ds) (b:=Itt c.X.K l) (B:=BI c.B c.X.K) R1 λ i H s _=>⟨λ hi=>⟨vs,sqt_same s h1,by rw[h2.len];exact hi⟩,λ d hd=>?_⟩).imp λ Q q=>⟨l,rfl,⟨vs,sqt_same R1.exF h1⟩,q⟩;obtain⟨v,h3,h4⟩:=h2.get hd
   exact⟨⟨vs,v,sqt_same s h1,h3⟩,λ x H' ⟨e1,e2⟩=>.inl ⟨e1,by
    have:=e2 vs (sqt_same s h1)
    rw[h3]at this
    cases this
    exact h4⟩⟩
  | _=>trivial
def asX:D->LS->R (List D)
 | .str x,L=>.ok (signs x) L
 | _,_=>.stuck
theorem ai5 {t:TE}(q:Jdg c n ga BD t):Jdg c n (λ L=>(ga L).bind asX) (BI c.B) (iStr t):=λ G F ow σ H L Rr =>
 (q G F ow σ H L Rr).bind1 (t2:=λ v H1 Q=>∃ x,v=V.str x/\Q (Its x) H1) λ d L1 v H1 F1 ow1 _ _ _ R1 b1=>by
  cases b1 with
  | str x=>exact(Post.val (a:=signs x) (b:=Its x) (B:=BI c.B c.X.K) R1 alq).imp λ Q q=>⟨x,rfl,q⟩
  | _=>trivial
theorem oN (h:JD c n a ga):JI c n tg a (λ L=>(ga L).bind fH):=by
 obtain⟨t,p,q⟩:=h;refine⟨λ σ H R=>iList c.X.K t σ H R∨iTup c.X.K t σ H R∨iStr t σ H R,alp (pi_list p) (alp (pi_tup p) (pi_str p)),λ G F ow σ H L Rr=>?_⟩
 have h1:=ai3 q G F ow σ H L Rr
 have h2:=ai4 q G F ow σ H L Rr
 have h3:=ai5 q G F ow σ H L Rr
 show Post c G n F H σ ((ga L).bind fH) _ _
 dsimp only at h1 h2 h3
 cases hr:ga L with
 | stuck=>trivial
 | err e L1 =>
  rw[hr]at h1;exact Post.imp h1 λ Q z=>.inl z
 | ok d L1 =>
  rw[hr]at h1 h2 h3
  cases d with
  | list ds=>exact Post.imp h1 λ Q z=>.inl z
  | tuple ds=>exact Post.imp h2 λ Q z=>.inr (.inl z)
  | str x=>exact Post.imp h3 λ Q z=>.inr (.inr z)
  | _=>trivial
end
structure Dx (P:Program)(w:World)(K:PySem.W.Frag)(mg:Str->Option Value)(base:Heap)(ca:Nat->Addr)(x:Str)(k:Nat)(ps:List Str)(md:List Bool)(m:LS->R S):Prop where
 ex:∃ f fd,FnOk P w K mg base (L2.CX P w) k f fd ps (VSp K ca md m)/\mg x=some (.ref f)/\PySem.W.keepIn K (.ref f)=true/\Binds K fd ps []
theorem kE {P:Program}{w:World}{K:PySem.W.Frag}{mg:Str->Option Value}{base:Heap}{ca:Nat->Addr}{x:Str}{k:Nat}{ps:List Str}{md:List Bool}{m:LS->R S}{f:Addr}{fd:FuncData}
  (h:FnOk P w K mg base (L2.CX P w) k f fd ps (VSp K ca md m)) (hg:mg x=some (.ref f)) (hk:PySem.W.keepIn K (.ref f)=true) (hb:Binds K fd ps []):Dx P w K mg base ca x k ps md m:=⟨f,fd,h,hg,hk,hb⟩
section
variable {c:Ct}{n:Bool}{pos:Pos}{es:List Expr}{as:List Ar}
theorem cD {x:Str}{k j:Nat}{ps:List Str}{md:List Bool}{m:LS->R S}{p:Pos}{e:Expr}(D:Dx c.X.prog c.X.w c.X.K c.X.mg c.X.base c.ca x k ps md m)(hr:Room j c.X.A)(hk:k<=j)(tk:Takes c.X c.W)(hg:Gl c.X x)(ha:JAr c n (e::es) as)(hl:as.length=md.length:=by rfl)
  (hdb:(x == ("__debug__":Str))=false:=by decide) (he:starEach (e::es) c.X.env=(false,eval e c.X.env)::starEach es c.X.env:=by rfl) (hpl:(backTo pos (starEach es c.X.env)).any (·.1)=false:=by rfl) :
  JE c (n&&allD as) (.Call (.Name x p) (e::es) [] pos) (gCall m as):=by
 obtain⟨f,fd,h1,h2,h3,h4⟩:=D.ex;exact ai1 h1 (hr.mono hk) tk hg h2 h3 h4 ha hl hdb he hpl
theorem alr {x z:Str}(hg:Gl c.X x)(hm:∃ t,c.X.mg x=some (.str z t))(hd:(x == ("__debug__":Str))=false:=by decide):JD c true (.Name x pos) (gC (.str z)):=by
 obtain⟨t,hm⟩:=hm;exact alh (pe_glob (v:=.str z) hg hm ⟨t,rfl⟩ hd) λ _ _=>.str _
end
theorem als {K:PySem.W.Frag}{ca:Nat->Addr}{m:LS->R S}{H:Hp}{a:Addr}{ns:List Int}(hS:SqL K H a (ns.map V.int)){L:LS}(h:m [some (.scr ns)]=.ok (.d (.bool true)) L) :
  VSp K ca [true] m [.ref a] H (λ v _=>v=.bl true) (λ _ _ _=>False):=by
 refine⟨λ _=>none,λ _=>none,H,λ _=>none,[some (.scr ns)],rfl,⟨Same.refl H,(λ _ _ h=>nomatch h),(λ _ _ h=>nomatch h),(λ _ _ _=>.inl rfl),rfl,λ i s hi=>?_,(λ i v hi=>nomatch hi),(λ _ _ h=>nomatch h),(λ _ _ h=>nomatch h)⟩,?_⟩
 ·cases i with
  | zero =>
   cases hi
   exact⟨.ref a,rfl,RT.of (.scr hS)⟩
  | succ i=>cases hi
 ·rw[h]
  intro v H' F' ow' _ _ rs
  cases rs with
  | d q=>cases q;rfl
theorem agp {P:Program}{w:World}(H:Hp)(s:Shared)(e:Value)(s':Shared):L2.CX P w [] H s (λ _ _ _=>False) e s'->False:=λ h=>by
 obtain⟨_,_,_,_,_,_,_,_,_,_,_,_,z⟩:=h;exact z
section
variable {K:PySem.W.Frag}
theorem bW {x:Str}(c:(He.Fa.glo x).ok K=true):PySem.W.nsIn K mainGlobals x=some (some (.ref (He.ga K x))):=He.eqO_ok c
theorem jO {x:Str}(c:(He.Fa.free x).ok K=true):PySem.W.nsIn K mainGlobals x=some none:=He.eqO_ok c
theorem adK {x z:Str}(c:(He.Fa.str x z).ok K=true):∃ t,PySem.W.nsIn K mainGlobals x=some (some (.str z t)):=by
 have c2:(match PySem.W.nsIn K mainGlobals x with
  | some (some (.str y _))=>decide (y=z)
  | _=>false)=true:=c
 split at c2
 ·rename_i y t e
  have ej:y=z:=of_decide_eq_true c2
  exact⟨t,by rw[e,ej]⟩
 ·cases c2
theorem cM {x q:Str}{ps:Arguments}{body:List Stmt}{sc:Scope}{f:Addr}{fd:FuncData}(F:FunD K x q ps body sc [] [] f fd):∃ (od an:Option Addr) (sl:Array (Option Value)) (oc kV dc pm cd ct:Value),K.lookup f=some ⟨oc,od,.func (PySem.W.fnOf x q ps body sc .none kV dc pm an cd ct),sl⟩/\PySem.W.codeIn K cd q=true/\PySem.W.keepIn K (.ref f)=true:=by
 obtain⟨oc,od,dV,kV,doc,pm,an,cdv,ct,osl,rfl,lk,hcd,hd,_⟩:=F.ex
 have e:dV=.none:=by
  rcases hd with ⟨_,e⟩ | ⟨e,_⟩
  ·exact e
  ·exact absurd rfl e
 subst e
 exact⟨od,an,osl,oc,kV,doc,pm,cdv,ct,lk,hcd,F.kp⟩
end
/-- what the head's facts must give for a law -/
def HdOk (l:PySem.W.OpenLaw)(n k:Nat)(x:Str)(CX:World->CXT)(w:World)(mg:Str->Option Value)(fa:Addr)(h:Heap):Prop :=
 ∃ (K:PySem.W.Frag) (fd:FuncData) (sp:Sp),K.In h/\(∀ (s:Shared) (u:Value),BindsTo s fd ⟨[u],[]⟩ [(x,u)]) /\
  (∀ (H:Hp) (a:Addr) (ns:List Int),ns.length<=n->Only H->SqL K H a (ns.map V.int)->sp [.ref a] H (λ v _=>v=.bl true) (λ _ _ _=>False)) /\
   (∀ base:Heap,K.In base->base.Ns mainGlobals mg->FnOk l.prog w K mg base (CX w) k fa fd [x] sp)
/-- the end of a law over facts,where what may be let out hangs on the apD -/
theorem alu {l:PySem.W.OpenLaw}{n k:Nat}{q:Program}{lo:List Str}{XP:(Str->Option Value)->Heap->Prop}{YP:World->Heap->Prop}{d:DefRec}{CX:World->CXT}{x:Str}(h1:l.most=some n)(h2:n<=sizeLine)(h3:d.params.defaults=[])(h4:Room k callerA)
  (F:∀ w mg fa h,YP w h->h.Ns mainGlobals mg->mg d.name=some (.ref fa)->HdOk l n k x CX w mg fa h) (h5:∀ w H s e s',CX w [] H s (λ _ _ _=>False) e s'->False):PySem.W.WalkO q lo XP YP l.row.toRowW d [] (λ f vs=>PySem.call f vs):=by
 refine Att.attach_call h1 h3 λ w s0 s1 mg mb fa o pm cd doc a vs ns G Y ho hd hcd hmg hob hin hlen hg=>?_
 obtain⟨K,fd,sp,kx,hb,hs,hF⟩:=F w mg fa _ Y G.T.g hmg
 exact law_call kx G.T.g G.T.b G.T.builtins G.T.nolimit hg hob hin (Nat.le_trans hlen h2) h4 hF hb (λ H z1 z2=>hs H a ns hlen z1 z2) (λ H e s'=>h5 w H s1 e s')
end VS
namespace Tx
open PySem PySem.Spec PyProof.Rows L2 VS
abbrev MmT:=LS->R S
def EndT (mm:MmT):Prop:=∀ ns:List Int,ns.length<=63->∃ L,mm [some (.scr ns)]=.ok (.d (.bool true)) L
def EndF (mm:MmT):Prop:=∀ (w:World) (K:W.Frag) (h:Heap) (mg:Str->Option Value) (fa:Addr) (X:K.In h) (G:h.Ns mainGlobals mg) (hfa:mg "law"=some (.ref fa)) (c:VS.SaysY faL fnL exL tsL w h K),∃ fd:FuncData,(∀ (s:Shared) (v:Value),BindsTo s fd ⟨[v],[]⟩ [("_law_script",v)])/\∀ base:Heap,K.In base->base.Ns mainGlobals mg->FnOk PySem.Challenge.rw_forsworn_k50_lines_read.prog w K mg base (L2.CX PySem.Challenge.rw_forsworn_k50_lines_read.prog w) 15 fa fd ["_law_script"] (λ vs H Q E=>∀ ca,VSp K ca [true] mm vs H Q E)
end Tx
set_option maxHeartbeats 0 in
theorem Tx.endL (mm:Tx.MmT)(T:Tx.EndT mm)(FA:Tx.EndF mm):PySem.Challenge.rw_forsworn_k50_lines_read.Holds:=by
 w_on;o_law
 refine HandSHeadRun.head_any (r:=PySem.W.OpenLaw.row PySem.Challenge.rw_forsworn_k50_lines_read) (q:=PySem.W.view (PySem.W.OpenLaw.row PySem.Challenge.rw_forsworn_k50_lines_read).prog [35]) (H:=Tx.hkL) (ob:=Tx.obL) (M:=16000) (loose:=Tx.nmL) (d:=HandSHeadRun.topDef (PySem.W.OpenLaw.row PySem.Challenge.rw_forsworn_k50_lines_read).prog 35) (kwd:=[]) Tx.alg (by kernel_rfl) (λ z=>by kernel_rfl) Tx.runL (by kernel_rfl) (by kernel_rfl) (by kernel_rfl) (by rfl) (by first | assumption | decide +kernel) (by decide +kernel) ⟨rfl,rfl,rfl,rfl,rfl,by decide +kernel⟩ ?hw ?hc
 case hw=>w_witness2
 case hc =>
  refine VS.alu (l:=PySem.Challenge.rw_forsworn_k50_lines_read) (n:=63) (k:=15) (x:="_law_script") (CX:=λ w=>L2.CX PySem.Challenge.rw_forsworn_k50_lines_read.prog w) rfl (by decide) (by kernel_rfl) ⟨rfl,by decide,by decide⟩ ?F (λ _ H s e s' h=>VS.agp H s e s' h)
  intro w mg fa h Y G hm
  obtain⟨K,KX,c⟩:=Y
  have hmg:mg ("law":PySem.Str)=some (.ref fa):=by
   have e:(HandSHeadRun.topDef (PySem.W.OpenLaw.row PySem.Challenge.rw_forsworn_k50_lines_read).prog 35).name=("law":PySem.Str):=by kernel_rfl
   rw[←e]
   exact hm
  obtain⟨fd,hb,hF⟩:=FA w K h mg fa KX G hmg c
  exact⟨K,fd,_,KX,hb,λ H a ns hl _ hS=>(T ns hl).elim λ L h=>λ ca=>VS.als hS h,hF⟩
namespace VS
open PySem PySem.Spec PyProof.Rows L2
section
variable {α:Type}{L L1 L2:LS}{i:Nat}
def seqK (r:R O)(g:LS->R O):R O:=match r with
 | .ok .nx L1=>g L1
 | r=>r
theorem jw (g1 g2:LS->R O)(L:LS):gSeq g1 g2 L=seqK (g1 L) g2:=rfl
theorem fV (L:LS)(g:LS->R O):seqK (.ok .nx L) g=g L:=rfl
theorem adL (s:S)(L:LS)(g:LS->R O):seqK (.ok (.rt s) L) g=.ok (.rt s) L:=rfl
theorem ai6 (L:LS)(g:LS->R O):seqK (.ok .bk L) g=.ok .bk L:=rfl
theorem ai7 (L:LS)(g:LS->R O):seqK (.ok .ct L) g=.ok .ct L:=rfl
theorem agq (e:Nat)(L:LS)(g:LS->R O):seqK (.err e L) g=.err e L:=rfl
theorem adM (L:LS):gNext L=.ok .nx L:=rfl
def ifK (r:R Bool)(x y:LS->R O):R O:=r.bind λ b L1=>if b=true then x L1 else y L1
theorem ev_if (t:LS->R Bool)(x y:LS->R O)(L:LS):gIf t x y L=ifK (t L) x y:=rfl
theorem abO (b:Bool)(L:LS)(x y:LS->R O):ifK (.ok b L) x y=if b=true then x L else y L:=rfl
theorem ai8 (e:Nat)(L:LS)(x y:LS->R O):ifK (.err e L) x y=.err e L:=rfl
def asgK (i:Nat)(r:R S):R O:=r.bind λ s L1=>.ok .nx (L1.set i (some s))
theorem alv (i:Nat)(g:LS->R S)(L:LS):gAsg i g L=asgK i (g L):=rfl
theorem ai9 (i:Nat)(s:S)(L:LS):asgK i (.ok s L)=.ok .nx (L.set i (some s)):=rfl
theorem agr (i e:Nat)(L:LS):asgK i (.err e L)=.err e L:=rfl
def retK (r:R S):R O:=r.bind λ s L1=>.ok (.rt s) L1
theorem alw (g:LS->R S)(L:LS):gRet g L=retK (g L):=rfl
theorem aja (s:S)(L:LS):retK (.ok s L)=.ok (.rt s) L:=rfl
theorem ags (e:Nat)(L:LS):retK (.err e L)=.err e L:=rfl
theorem ajb (L:LS):gRetN L=.ok (.rt (.d .none)) L:=rfl
def dropK (r:R α):R O:=r.bind λ _ L1=>.ok .nx L1
theorem ajc (g:LS->R α)(L:LS):gDrop g L=dropK (g L):=rfl
theorem agt (a:α)(L:LS):dropK (.ok a L)=.ok .nx L:=rfl
theorem adN (e:Nat)(L:LS):dropK (.err e L:R α)=.err e L:=rfl
theorem ev_c (d:D)(L:LS):gC d L=.ok d L:=rfl
def dK (r:R D):R S:=r.bind λ d L1=>.ok (.d d) L1
theorem apd (g:LS->R D)(L:LS):gD g L=dK (g L):=rfl
theorem anI (d:D)(L:LS):dK (.ok d L)=.ok (.d d) L:=rfl
theorem alx (e:Nat)(L:LS):dK (.err e L)=.err e L:=rfl
def fzK (r:R S):R D:=r.bind frS
theorem anJ (g:LS->R S)(L:LS):gFz g L=fzK (g L):=rfl
theorem anK (d:D)(L:LS):fzK (.ok (.d d) L)=.ok d L:=rfl
theorem anL (ds:List D)(L:LS):fzK (.ok (.ol ds) L)=.ok (.list ds) L:=rfl
theorem ajd (e:Nat)(L:LS):fzK (.err e L)=.err e L:=rfl
def anM (f:D->D->Option α)(b:LS->R D)(r:R D):R α:=r.bind λ d L1=>(b L1).bind λ e L2=>ofO (f d e) L2
def anN (f:D->D->Option α)(d:D)(r:R D):R α:=r.bind λ e L2=>ofO (f d e) L2
theorem ev_op (f:D->D->Option α)(a b:LS->R D)(L:LS):gOp f a b L=anM f b (a L):=rfl
theorem aje (f:D->D->Option α)(b:LS->R D)(d:D)(L:LS):anM f b (.ok d L)=anN f d (b L):=rfl
theorem agu (f:D->D->Option α)(b:LS->R D)(e:Nat)(L:LS):anM f b (.err e L)=.err e L:=rfl
theorem ajf (f:D->D->Option α)(d e:D)(L:LS):anN f d (.ok e L)=ofO (f d e) L:=rfl
theorem agv (f:D->D->Option α)(d:D)(e:Nat)(L:LS):anN f d (.err e L)=.err e L:=rfl
def unK (f:D->Option α)(r:R D):R α:=r.bind λ d L1=>ofO (f d) L1
theorem ev_un (f:D->Option α)(a:LS->R D)(L:LS):gUn f a L=unK f (a L):=rfl
theorem aly (f:D->Option α)(d:D)(L:LS):unK f (.ok d L)=ofO (f d) L:=rfl
theorem ajg (f:D->Option α)(e:Nat)(L:LS):unK f (.err e L)=.err e L:=rfl
theorem alz (T:String)(a:LS->R D)(L:LS):gIsi T a L=unK (isTy T) (a L):=rfl
def bK (r:R D):R Bool:=r.bind asB
theorem ape (g:LS->R D)(L:LS):gB g L=bK (g L):=rfl
theorem anO (b:Bool)(L:LS):bK (.ok (.bool b) L)=.ok b L:=rfl
theorem alA (e:Nat)(L:LS):bK (.err e L)=.err e L:=rfl
def andK (r:R Bool)(b:LS->R Bool):R Bool:=r.bind λ x L1=>if x=true then b L1 else .ok false L1
def orK (r:R Bool)(b:LS->R Bool):R Bool:=r.bind λ x L1=>if x=true then .ok true L1 else b L1
def notK (r:R Bool):R Bool:=r.bind λ x L1=>.ok (!x) L1
theorem alB (a b:LS->R Bool)(L:LS):gAnd a b L=andK (a L) b:=rfl
theorem ajh (x:Bool)(b:LS->R Bool)(L:LS):andK (.ok x L) b=if x=true then b L else .ok false L:=rfl
theorem agw (e:Nat)(b:LS->R Bool)(L:LS):andK (.err e L) b=.err e L:=rfl
theorem anP (a b:LS->R Bool)(L:LS):gOr a b L=orK (a L) b:=rfl
theorem alC (x:Bool)(b:LS->R Bool)(L:LS):orK (.ok x L) b=if x=true then .ok true L else b L:=rfl
theorem aji (e:Nat)(b:LS->R Bool)(L:LS):orK (.err e L) b=.err e L:=rfl
theorem alD (a:LS->R Bool)(L:LS):gNot a L=notK (a L):=rfl
theorem ajj (x:Bool)(L:LS):notK (.ok x L)=.ok (!x) L:=rfl
def andVK (r:R D)(b:LS->R D):R D:=r.bind λ d L1=>match d with
 | .bool x=>if x=true then b L1 else .ok (.bool false) L1
 | _=>.stuck
def orVK (r:R D)(b:LS->R D):R D:=r.bind λ d L1=>match d with
 | .bool x=>if x=true then .ok (.bool true) L1 else b L1
 | _=>.stuck
theorem ev_andV (a b:LS->R D)(L:LS):gAndV a b L=andVK (a L) b:=rfl
theorem agx (x:Bool)(b:LS->R D)(L:LS):andVK (.ok (.bool x) L) b=if x=true then b L else .ok (.bool false) L:=rfl
theorem ev_orV (a b:LS->R D)(L:LS):gOrV a b L=orVK (a L) b:=rfl
theorem ajk (x:Bool)(b:LS->R D)(L:LS):orVK (.ok (.bool x) L) b=if x=true then .ok (.bool true) L else b L:=rfl
def ifEK (r:R Bool)(a b:LS->R α):R α:=r.bind λ x L1=>if x=true then a L1 else b L1
theorem alE (t:LS->R Bool)(a b:LS->R α)(L:LS):gIfE t a b L=ifEK (t L) a b:=rfl
theorem ajl (x:Bool)(a b:LS->R α)(L:LS):ifEK (.ok x L) a b=if x=true then a L else b L:=rfl
def adP (r:LS->R (List D))(x:R D):R (List D):=x.bind λ d L1=>(r L1).bind λ ds L2=>.ok (d::ds) L2
def adQ (d:D)(r:R (List D)):R (List D):=r.bind λ ds L2=>.ok (d::ds) L2
theorem alF (L:LS):gNil L=.ok [] L:=rfl
theorem adR (a:LS->R D)(r:LS->R (List D))(L:LS):gCons a r L=adP r (a L):=rfl
theorem adS (r:LS->R (List D))(d:D)(L:LS):adP r (.ok d L)=adQ d (r L):=rfl
theorem acy (r:LS->R (List D))(e:Nat)(L:LS):adP r (.err e L)=.err e L:=rfl
theorem adT (d:D)(ds:List D)(L:LS):adQ d (.ok ds L)=.ok (d::ds) L:=rfl
theorem acz (d:D)(e:Nat)(L:LS):adQ d (.err e L)=.err e L:=rfl
def lstK (r:R (List D)):R S:=r.bind λ ds L1=>if ds.length<=sizeLine then .ok (.ol ds) L1 else .stuck
def tupK (r:R (List D)):R D:=r.bind λ ds L1=>if ds.length<=sizeLine then .ok (.tuple ds) L1 else .stuck
theorem alG (a:LS->R (List D))(L:LS):gLst a L=lstK (a L):=rfl
theorem ajm (ds:List D)(L:LS):lstK (.ok ds L)=if ds.length<=sizeLine then .ok (.ol ds) L else .stuck:=rfl
theorem alH (a:LS->R (List D))(L:LS):gTup a L=tupK (a L):=rfl
theorem ajn (ds:List D)(L:LS):tupK (.ok ds L)=if ds.length<=sizeLine then .ok (.tuple ds) L else .stuck:=rfl
theorem zH {n:Nat}(h:n<=1000000):n<=sizeLine:=by rw[PySem.sizeLine_eq];omega
def varK (i:Nat)(o:Option (Option S))(L:LS):R D:=match o with
 | some (some (.d d))=>.ok d L
 | some (some (.ol ds))=>.ok (.list ds) (L.set i (some (.d (.list ds))))
 | _=>.stuck
theorem ev_var (i:Nat)(L:LS):gVar i L=varK i L[i]? L:=rfl
theorem alI (i:Nat)(d:D)(L:LS):varK i (some (some (.d d))) L=.ok d L:=rfl
theorem alJ (i:Nat)(ds:List D)(L:LS):varK i (some (some (.ol ds))) L=.ok (.list ds) (L.set i (some (.d (.list ds)))):=rfl
def peekK (o:Option (Option S))(L:LS):R D:=match o with
 | some (some (.d d))=>.ok d L
 | some (some (.ol ds))=>.ok (.list ds) L
 | some (some (.scr ns))=>.ok (.list (ns.map PyData.int)) L
 | some (some (.bl ds))=>.ok (.list ds) L
 | _=>.stuck
theorem ajo (i:Nat)(L:LS):gPeek i L=peekK L[i]? L:=rfl
theorem ajp (d:D)(L:LS):peekK (some (some (.d d))) L=.ok d L:=rfl
theorem ajq (ds:List D)(L:LS):peekK (some (some (.ol ds))) L=.ok (.list ds) L:=rfl
theorem ajr (ns:List Int)(L:LS):peekK (some (some (.scr ns))) L=.ok (.list (ns.map PyData.int)) L:=rfl
def moveK (i:Nat)(o:Option (Option S))(L:LS):R S:=match o with
 | some (some (.d d))=>.ok (.d d) L
 | some (some (.scr _))=>.stuck
 | some (some (.b _))=>.stuck
 | some (some (.bl _))=>.stuck
 | some (some s)=>.ok s (L.set i none)
 | _=>.stuck
theorem ajs (i:Nat)(L:LS):gMove i L=moveK i L[i]? L:=rfl
theorem ajt (i:Nat)(d:D)(L:LS):moveK i (some (some (.d d))) L=.ok (.d d) L:=rfl
theorem aju (i:Nat)(ds:List D)(L:LS):moveK i (some (some (.ol ds))) L=.ok (.ol ds) (L.set i none):=rfl
def ixK (i:Nat)(o:Option (Option S))(b:LS->R D)(L:LS):R D:=match o with
 | some (some _)=>(b L).bind λ e L1=>(gPeek i L1).bind λ d L2=>ofO (dIx d e) L2
 | _=>.stuck
def anQ (i:Nat)(r:R D):R D:=r.bind λ e L1=>(gPeek i L1).bind λ d L2=>ofO (dIx d e) L2
def ao4 (e:D)(r:R D):R D:=r.bind λ d L2=>ofO (dIx d e) L2
theorem alK (i:Nat)(b:LS->R D)(L:LS):gIxP i b L=ixK i L[i]? b L:=rfl
theorem alL (i:Nat)(s:S)(b:LS->R D)(L:LS):ixK i (some (some s)) b L=anQ i (b L):=rfl
theorem ajv (i:Nat)(e:D)(L:LS):anQ i (.ok e L)=ao4 e (gPeek i L):=rfl
theorem agy (i e:Nat)(L:LS):anQ i (.err e L)=.err e L:=rfl
theorem ajw (e d:D)(L:LS):ao4 e (.ok d L)=ofO (dIx d e) L:=rfl
theorem abP (xs:List D)(k:Nat):atI xs (k:Int)=xs[k]?:=by
 unfold atI ixN;rw[if_pos (Int.natCast_nonneg k)]
 by_cases h:k < xs.length
 ·rw[if_pos (by omega)]
  rfl
 ·rw[if_neg (by omega),List.getElem?_eq_none (by omega)]
  rfl
theorem qH (xs:List D)(k:Nat):dIx (.list xs) (.int (k:Int))=xs[k]?:=abP xs k
theorem rJ (xs:List D)(k:Nat):dIx (.tuple xs) (.int (k:Int))=xs[k]?:=abP xs k
theorem alM (xs:List D):dIx (.list xs) (.int 0)=xs[0]?:=qH xs 0
theorem alN (xs:List D):dIx (.list xs) (.int 1)=xs[1]?:=qH xs 1
theorem alO (xs:List D):dIx (.list xs) (.int 2)=xs[2]?:=qH xs 2
theorem alP (xs:List D):dIx (.list xs) (.int 3)=xs[3]?:=qH xs 3
theorem alQ (xs:List D):dIx (.list xs) (.int 4)=xs[4]?:=qH xs 4
theorem alR (xs:List D):dIx (.tuple xs) (.int 0)=xs[0]?:=rJ xs 0
theorem alS (xs:List D):dIx (.tuple xs) (.int 1)=xs[1]?:=rJ xs 1
theorem alT (xs:List D):dIx (.tuple xs) (.int 2)=xs[2]?:=rJ xs 2
theorem alU (xs:List D):dIx (.tuple xs) (.int 3)=xs[3]?:=rJ xs 3
def ajx (i:Nat)(gk:LS->R D)(r:R D):R O:=r.bind λ d L1=>match L1[i]? with
 | some (some _)=>(gk L1).bind (setAt i d)
 | _=>.stuck
def alV (i:Nat)(gk:LS->R D)(d:D)(o:Option (Option S))(L:LS):R O:=match o with
 | some (some _)=>(gk L).bind (setAt i d)
 | _=>.stuck
def alW (i:Nat)(d:D)(r:R D):R O:=r.bind (setAt i d)
def zJ (i:Nat)(d:D)(k:Int)(o:Option (Option S))(L:LS):R O:=match o with
 | some (some (.ol ds))=>(match ixN ds.length k with
  | some j=>.ok .nx (L.set i (some (.ol (ds.set j d))))
  | none=>.stuck)
 | _=>.stuck
theorem agz (i:Nat)(gk g:LS->R D)(L:LS):gSetIx i gk g L=ajx i gk (g L):=rfl
theorem agA (i:Nat)(gk:LS->R D)(d:D)(L:LS):ajx i gk (.ok d L)=alV i gk d L[i]? L:=rfl
theorem adU (i:Nat)(gk:LS->R D)(e:Nat)(L:LS):ajx i gk (.err e L)=.err e L:=rfl
theorem agB (i:Nat)(gk:LS->R D)(d:D)(s:S)(L:LS):alV i gk d (some (some s)) L=alW i d (gk L):=rfl
theorem agC (i:Nat)(d:D)(k:Int)(L:LS):alW i d (.ok (.int k) L)=zJ i d k L[i]? L:=rfl
theorem oO (i:Nat)(d:D)(k:Nat)(ds:List D)(L:LS):zJ i d (k:Int) (some (some (.ol ds))) L=if k < ds.length then .ok .nx (L.set i (some (.ol (ds.set k d)))) else .stuck:=by
 unfold zJ ixN
 dsimp only
 rw[if_pos (Int.natCast_nonneg k)]
 by_cases h:k < ds.length
 ·rw[if_pos (by omega),if_pos h]
  rfl
 ·rw[if_neg (by omega),if_neg h]
theorem ajy (i:Nat)(d:D)(ds:List D)(L:LS):zJ i d 0 (some (some (.ol ds))) L=if 0 < ds.length then .ok .nx (L.set i (some (.ol (ds.set 0 d)))) else .stuck:=oO i d 0 ds L
theorem ajz (i:Nat)(d:D)(ds:List D)(L:LS):zJ i d 1 (some (some (.ol ds))) L=if 1 < ds.length then .ok .nx (L.set i (some (.ol (ds.set 1 d)))) else .stuck:=oO i d 1 ds L
theorem ajA (i:Nat)(d:D)(ds:List D)(L:LS):zJ i d 2 (some (some (.ol ds))) L=if 2 < ds.length then .ok .nx (L.set i (some (.ol (ds.set 2 d)))) else .stuck:=oO i d 2 ds L
theorem ajB (i:Nat)(d:D)(ds:List D)(L:LS):zJ i d 3 (some (some (.ol ds))) L=if 3 < ds.length then .ok .nx (L.set i (some (.ol (ds.set 3 d)))) else .stuck:=oO i d 3 ds L
theorem ajC (i:Nat)(d:D)(ds:List D)(L:LS):zJ i d 4 (some (some (.ol ds))) L=if 4 < ds.length then .ok .nx (L.set i (some (.ol (ds.set 4 d)))) else .stuck:=oO i d 4 ds L
def ao5 (lo hi:LS->R (Option Int))(r:R D):R S:=r.bind λ d L1=>(lo L1).bind λ l L2=>(hi L2).bind λ u L3=>ofO (dSl d l u) L3
def ao6 (d:D)(hi:LS->R (Option Int))(r:R (Option Int)):R S:=r.bind λ l L2=>(hi L2).bind λ u L3=>ofO (dSl d l u) L3
def ao7 (d:D)(l:Option Int)(r:R (Option Int)):R S:=r.bind λ u L3=>ofO (dSl d l u) L3
theorem anR (a:LS->R D)(lo hi:LS->R (Option Int))(L:LS):gSl a lo hi L=ao5 lo hi (a L):=rfl
theorem ajD (lo hi:LS->R (Option Int))(d:D)(L:LS):ao5 lo hi (.ok d L)=ao6 d hi (lo L):=rfl
theorem ajE (d:D)(hi:LS->R (Option Int))(l:Option Int)(L:LS):ao6 d hi (.ok l L)=ao7 d l (hi L):=rfl
theorem ajF (d:D)(l u:Option Int)(L:LS):ao7 d l (.ok u L)=ofO (dSl d l u) L:=rfl
theorem anS (L:LS):gNo L=.ok none L:=rfl
def soK (r:R D):R (Option Int):=r.bind asI
theorem anT (g:LS->R D)(L:LS):gSo g L=soK (g L):=rfl
theorem alX (i:Int)(L:LS):soK (.ok (.int i) L)=.ok (some i) L:=rfl
theorem ajG (e:Nat)(L:LS):soK (.err e L)=.err e L:=rfl
def ail (gb:LS->R D)(r:R D):R D:=r.bind (gTxt λ a L1=>(gb L1).bind λ e L2=>ofO (dJoin (.str a) e) L2)
def aim (a:Str)(r:R D):R D:=r.bind λ e L2=>ofO (dJoin (.str a) e) L2
theorem ajH (ga gb:LS->R D)(L:LS):gJoin ga gb L=ail gb (ga L):=rfl
theorem adV (gb:LS->R D)(a:Str)(L:LS):ail gb (.ok (.str a) L)=aim a (gb L):=rfl
theorem adW (a:Str)(e:D)(L:LS):aim a (.ok e L)=ofO (dJoin (.str a) e) L:=rfl
def alY (i:Nat)(g:LS->R D)(o:Option (Option S))(L:LS):R S:=match o with
 | some (some (.ol _))=>(g L).bind λ d L1=>gOwnL i (λ ds L2=>if ds.length < sizeLine then .ok (.d .none) (L2.set i (some (.ol (ds++[d])))) else .stuck) L1
 | _=>.stuck
def ajI (i:Nat)(r:R D):R S:=r.bind λ d L1=>gOwnL i (λ ds L2=>if ds.length < sizeLine then .ok (.d .none) (L2.set i (some (.ol (ds++[d])))) else .stuck) L1
def alZ (i:Nat)(d:D)(o:Option (Option S))(L:LS):R S:=match o with
 | some (some (.ol ds))=>if ds.length < sizeLine then .ok (.d .none) (L.set i (some (.ol (ds++[d])))) else .stuck
 | _=>.stuck
theorem al0 (i:Nat)(g:LS->R D)(L:LS):gApp i g L=alY i g L[i]? L:=rfl
theorem agD (i:Nat)(g:LS->R D)(ds:List D)(L:LS):alY i g (some (some (.ol ds))) L=ajI i (g L):=rfl
theorem agE (i:Nat)(d:D)(L:LS):ajI i (.ok d L)=alZ i d L[i]? L:=rfl
theorem adX (i e:Nat)(L:LS):ajI i (.err e L)=.err e L:=rfl
theorem agF (i:Nat)(d:D)(ds:List D)(L:LS):alZ i d (some (some (.ol ds))) L=if ds.length < sizeLine then .ok (.d .none) (L.set i (some (.ol (ds++[d])))) else .stuck:=rfl
def anU (as:List Ar)(r:R D):R (List Av):=r.bind λ d L1=>(evArgs as L1).bind λ xs L2=>.ok (.d d::xs) L2
def anr (x:Av)(r:R (List Av)):R (List Av):=r.bind λ xs L2=>.ok (x::xs) L2
def ao8 (i:Nat)(o:Option (Option S))(as:List Ar)(L:LS):R (List Av):=match o with
 | some (some _)=>(evArgs as L).bind λ xs L2=>.ok (.r i::xs) L2
 | _=>.stuck
theorem anV (L:LS):evArgs [] L=.ok [] L:=rfl
theorem anW (g:LS->R D)(as:List Ar)(L:LS):evArgs (.d g::as) L=anU as (g L):=rfl
theorem anY (i:Nat)(as:List Ar)(L:LS):evArgs (.r i::as) L=ao8 i L[i]? as L:=rfl
theorem ajJ (as:List Ar)(d:D)(L:LS):anU as (.ok d L)=anr (.d d) (evArgs as L):=rfl
theorem agG (as:List Ar)(e:Nat)(L:LS):anU as (.err e L)=.err e L:=rfl
theorem ajK (i:Nat)(s:S)(as:List Ar)(L:LS):ao8 i (some (some s)) as L=anr (.r i) (evArgs as L):=rfl
theorem ajL (x:Av)(xs:List Av)(L:LS):anr x (.ok xs L)=.ok (x::xs) L:=rfl
theorem agH (x:Av)(e:Nat)(L:LS):anr x (.err e L)=.err e L:=rfl
def callK (m:LS->R S)(r:R (List Av)):R S:=r.bind λ xs L1=>if(refs xs).Nodup then callAt m xs L1 else .stuck
def backK (xs:List Av)(L:LS)(r:R S):R S:=match r with
 | .ok s ss=>.ok s (putBack xs ss L)
 | .err e ss=>.err e (putBack xs ss L)
 | .stuck=>.stuck
theorem ev_call (m:LS->R S)(as:List Ar)(L:LS):gCall m as L=callK m (evArgs as L):=rfl
theorem agI (m:LS->R S)(d:D)(L:LS):callK m (.ok [.d d] L)=backK [.d d] L (m [some (.d d)]):=rfl
theorem jU (m:LS->R S)(xs:List Av)(L:LS)(h:(refs xs).Nodup):callK m (.ok xs L)=backK xs L (m (xs.map (slotOf L))):=if_pos h
theorem agJ (m:LS->R S)(d0 d1:D)(L:LS):callK m (.ok [.d d0,.d d1] L)=backK [.d d0,.d d1] L (m [some (.d d0),some (.d d1)]):=rfl
theorem agK (m:LS->R S)(d0 d1 d2:D)(L:LS):callK m (.ok [.d d0,.d d1,.d d2] L)=backK [.d d0,.d d1,.d d2] L (m [some (.d d0),some (.d d1),some (.d d2)]):=rfl
theorem agL (m:LS->R S)(d0 d1 d2 d3:D)(L:LS):callK m (.ok [.d d0,.d d1,.d d2,.d d3] L)=backK [.d d0,.d d1,.d d2,.d d3] L (m [some (.d d0),some (.d d1),some (.d d2),some (.d d3)]):=rfl
theorem agM (m:LS->R S)(d0 d1 d2 d3 d4:D)(L:LS):callK m (.ok [.d d0,.d d1,.d d2,.d d3,.d d4] L)=backK [.d d0,.d d1,.d d2,.d d3,.d d4] L (m [some (.d d0),some (.d d1),some (.d d2),some (.d d3),some (.d d4)]):=rfl
theorem agN (m:LS->R S)(d0 d1 d2 d3 d4 d5:D)(L:LS):callK m (.ok [.d d0,.d d1,.d d2,.d d3,.d d4,.d d5] L)=backK [.d d0,.d d1,.d d2,.d d3,.d d4,.d d5] L (m [some (.d d0),some (.d d1),some (.d d2),some (.d d3),some (.d d4),some (.d d5)]):=rfl
theorem agO (m:LS->R S)(d0 d1 d2 d3 d4 d5 d6:D)(L:LS):callK m (.ok [.d d0,.d d1,.d d2,.d d3,.d d4,.d d5,.d d6] L)=backK [.d d0,.d d1,.d d2,.d d3,.d d4,.d d5,.d d6] L (m [some (.d d0),some (.d d1),some (.d d2),some (.d d3),some (.d d4),some (.d d5),some (.d d6)]):=rfl
theorem agP (m:LS->R S)(d0 d1 d2 d3 d4 d5 d6 d7:D)(L:LS):callK m (.ok [.d d0,.d d1,.d d2,.d d3,.d d4,.d d5,.d d6,.d d7] L)=backK [.d d0,.d d1,.d d2,.d d3,.d d4,.d d5,.d d6,.d d7] L (m [some (.d d0),some (.d d1),some (.d d2),some (.d d3),some (.d d4),some (.d d5),some (.d d6),some (.d d7)]):=rfl
theorem agQ (m:LS->R S)(i:Nat)  (L:LS):callK m (.ok [.r i] L)=backK [.r i] L (m [(L[i]?).join]):=jU m _ L (List.nodup_cons.mpr ⟨List.not_mem_nil,List.nodup_nil⟩)
theorem agR (m:LS->R S)(i:Nat)(d0:D)(L:LS):callK m (.ok [.r i,.d d0] L)=backK [.r i,.d d0] L (m [(L[i]?).join,some (.d d0)]):=jU m _ L (List.nodup_cons.mpr ⟨List.not_mem_nil,List.nodup_nil⟩)
theorem agS (m:LS->R S)(i:Nat)(d0 d1:D)(L:LS):callK m (.ok [.r i,.d d0,.d d1] L)=backK [.r i,.d d0,.d d1] L (m [(L[i]?).join,some (.d d0),some (.d d1)]):=jU m _ L (List.nodup_cons.mpr ⟨List.not_mem_nil,List.nodup_nil⟩)
theorem agT (m:LS->R S)(i:Nat)(d0 d1 d2:D)(L:LS):callK m (.ok [.r i,.d d0,.d d1,.d d2] L)=backK [.r i,.d d0,.d d1,.d d2] L (m [(L[i]?).join,some (.d d0),some (.d d1),some (.d d2)]):=jU m _ L (List.nodup_cons.mpr ⟨List.not_mem_nil,List.nodup_nil⟩)
theorem agU (m:LS->R S)(i:Nat)(d0 d1 d2 d3:D)(L:LS):callK m (.ok [.r i,.d d0,.d d1,.d d2,.d d3] L)=backK [.r i,.d d0,.d d1,.d d2,.d d3] L (m [(L[i]?).join,some (.d d0),some (.d d1),some (.d d2),some (.d d3)]):=jU m _ L (List.nodup_cons.mpr ⟨List.not_mem_nil,List.nodup_nil⟩)
theorem agV (m:LS->R S)(i:Nat)(d0 d1 d2 d3 d4:D)(L:LS):callK m (.ok [.r i,.d d0,.d d1,.d d2,.d d3,.d d4] L)=backK [.r i,.d d0,.d d1,.d d2,.d d3,.d d4] L (m [(L[i]?).join,some (.d d0),some (.d d1),some (.d d2),some (.d d3),some (.d d4)]):=jU m _ L (List.nodup_cons.mpr ⟨List.not_mem_nil,List.nodup_nil⟩)
theorem agW (m:LS->R S)(i:Nat)(d0 d1 d2 d3 d4 d5:D)(L:LS):callK m (.ok [.r i,.d d0,.d d1,.d d2,.d d3,.d d4,.d d5] L)=backK [.r i,.d d0,.d d1,.d d2,.d d3,.d d4,.d d5] L (m [(L[i]?).join,some (.d d0),some (.d d1),some (.d d2),some (.d d3),some (.d d4),some (.d d5)]):=jU m _ L (List.nodup_cons.mpr ⟨List.not_mem_nil,List.nodup_nil⟩)
theorem agX (m:LS->R S)(i:Nat)(d0 d1 d2 d3 d4 d5 d6:D)(L:LS):callK m (.ok [.r i,.d d0,.d d1,.d d2,.d d3,.d d4,.d d5,.d d6] L)=backK [.r i,.d d0,.d d1,.d d2,.d d3,.d d4,.d d5,.d d6] L (m [(L[i]?).join,some (.d d0),some (.d d1),some (.d d2),some (.d d3),some (.d d4),some (.d d5),some (.d d6)]):=jU m _ L (List.nodup_cons.mpr ⟨List.not_mem_nil,List.nodup_nil⟩)
theorem adY (m:LS->R S)(e:Nat)(L:LS):callK m (.err e L)=.err e L:=rfl
theorem agY (xs:List Av)(L:LS)(s:S)(ss:LS):backK xs L (.ok s ss)=.ok s (putBack xs ss L):=rfl
theorem adZ (xs:List Av)(L:LS)(e:Nat)(ss:LS):backK xs L (.err e ss)=.err e (putBack xs ss L):=rfl
theorem agZ (L:LS)(d:D):slotOf L (.d d)=some (.d d):=rfl
theorem ag0 (L:LS)(i:Nat):slotOf L (.r i)=(L[i]?).join:=rfl
theorem ad0 (xs:List Av)(d:D)(o:Option S)(ss L:LS):putBack (.d d::xs) (o::ss) L=putBack xs ss L:=rfl
theorem ad1 (xs:List Av)(i:Nat)(o:Option S)(ss L:LS):putBack (.r i::xs) (o::ss) L=putBack xs ss (L.set i o):=rfl
theorem aaP (ss L:LS):putBack [] ss L=L:=rfl
theorem ag1:refs []=[]:=rfl
theorem al1 (d:D)(xs:List Av):refs (.d d::xs)=refs xs:=rfl
theorem al2 (i:Nat)(xs:List Av):refs (.r i::xs)=i::refs xs:=rfl
theorem abQ (md:List Bool)(N:Nat)(g:LS->R O)(ss:LS):runDef md N g ss=endOf md (g (ss++List.replicate (N - ss.length) none)):=rfl
theorem ag3 (md:List Bool)(L:LS):endOf md (.ok .nx L)=.ok (.d .none) (maskL md L):=rfl
theorem ag4 (md:List Bool)(s:S)(L:LS):endOf md (.ok (.rt s) L)=.ok s (maskL md L):=rfl
theorem ad2 (md:List Bool)(e:Nat)(L:LS):endOf md (.err e L)=.err e (maskL md L):=rfl
theorem ajM (bs:List Bool)(o:Option S)(L:LS):maskL (true::bs) (o::L)=o::maskL bs L:=rfl
theorem ajN (bs:List Bool)(o:Option S)(L:LS):maskL (false::bs) (o::L)=none::maskL bs L:=rfl
theorem ad3 (L:LS):maskL [] L=[]:=by cases L<;>rfl
def forK (f:D->LS->Option LS)(g:LS->R O)(r:R (List D)):R O:=r.bind λ ds L1=>forGo f g ds L1
theorem abR (gi:LS->R (List D))(f:D->LS->Option LS)(g:LS->R O)(L:LS):gFor gi f g L=forK f g (gi L):=rfl
theorem xX (f:D->LS->Option LS)(g:LS->R O)(ds:List D)(L:LS):forK f g (.ok ds L)=forGo f g ds L:=rfl
def turnK (f:D->LS->Option LS)(g:LS->R O)(ds:List D)(r:R O):R O:=match r with
 | .ok .nx L2=>forGo f g ds L2
 | .ok .ct L2=>forGo f g ds L2
 | .ok .bk L2=>.ok .nx L2
 | r=>r
theorem zK (f:D->LS->Option LS)(g:LS->R O)(L:LS):forGo f g [] L=.ok .nx L:=rfl
theorem pJ (f:D->LS->Option LS)(g:LS->R O)(d:D)(ds:List D){L L1:LS}(h:f d L=some L1):forGo f g (d::ds) L=turnK f g ds (g L1):=by
 show(match f d L with
  | none=>R.stuck
  | some L1=>turnK f g ds (g L1))=_
 rw[h]
theorem rK (f:D->LS->Option LS)(g:LS->R O)(ds:List D)(L:LS):turnK f g ds (.ok .nx L)=forGo f g ds L:=rfl
theorem ag5 (f:D->LS->Option LS)(g:LS->R O)(ds:List D)(L:LS):turnK f g ds (.ok .ct L)=forGo f g ds L:=rfl
theorem ag6 (f:D->LS->Option LS)(g:LS->R O)(ds:List D)(L:LS):turnK f g ds (.ok .bk L)=.ok .nx L:=rfl
theorem xY (f:D->LS->Option LS)(g:LS->R O)(ds:List D)(s:S)(L:LS):turnK f g ds (.ok (.rt s) L)=.ok (.rt s) L:=rfl
theorem ad4 (f:D->LS->Option LS)(g:LS->R O)(ds:List D)(e:Nat)(L:LS):turnK f g ds (.err e L)=.err e L:=rfl
theorem aaQ {β:Type}(a:α)(L:LS)(k:α->LS->R β):(R.ok a L).bind k=k a L:=rfl
theorem ad5 (ds:List D)(L:LS):fH (.list ds) L=.ok ds L:=rfl
theorem ad6 (ds:List D)(L:LS):fH (.tuple ds) L=.ok ds L:=rfl
theorem ad7 (x:Str)(L:LS):fH (.str x) L=.ok (signs x) L:=rfl
theorem ajO (i:Nat)(d:D)(L:LS):fName i d L=some (L.set i (some (.d d))):=rfl
theorem ajP (L:LS):fNil [] L=some L:=rfl
theorem ag7 (f:D->LS->Option LS)(r:List D->LS->Option LS)(d:D)(ds:List D)(L:LS):fCons f r (d::ds) L=(f d L).bind (r ds):=rfl
theorem ajQ (m:Nat)(f:List D->LS->Option LS)(ds:List D)(L:LS):fTup m f (.tuple ds) L=if ds.length=m then f ds L else none:=rfl
theorem ad8 {β:Type}(a:α)(k:α->Option β):(some a).bind k=k a:=rfl
def asgTK (f:D->LS->Option LS)(r:R D):R O:=r.bind λ d L1=>match f d L1 with
 | some L2=>.ok .nx L2
 | none=>.stuck
def ain (o:Option LS):R O:=match o with
 | some L2=>.ok .nx L2
 | none=>.stuck
theorem ajR (f:D->LS->Option LS)(g:LS->R D)(L:LS):gAsgT f g L=asgTK f (g L):=rfl
theorem ag8 (f:D->LS->Option LS)(d:D)(L:LS):asgTK f (.ok d L)=ain (f d L):=rfl
theorem ad9 (L:LS):ain (some L)=.ok .nx L:=rfl
def lcK (vs:List Nat)(f:D->LS->Option LS)(gt:LS->R Bool)(ge:LS->R D)(r:R (List D)):R S:=r.bind λ ds L1=>lcGo vs f gt ge ds [] (wipeL L1 vs)
theorem anZ (vs:List Nat)(gi:LS->R (List D))(f:D->LS->Option LS)(gt:LS->R Bool)(ge:LS->R D)(L:LS):gLc vs gi f gt ge L=lcK vs f gt ge (gi L):=rfl
theorem al3 (vs:List Nat)(f:D->LS->Option LS)(gt:LS->R Bool)(ge:LS->R D)(ds:List D)(L:LS):lcK vs f gt ge (.ok ds L)=lcGo vs f gt ge ds [] (wipeL L vs):=rfl
theorem aea (L:LS):wipeL L []=L:=rfl
theorem acA (L:LS)(v:Nat)(vs:List Nat):wipeL L (v::vs)=(wipeL L vs).set v none:=rfl
theorem al4 (L:LS):gYes L=.ok true L:=rfl
theorem abS (vs:List Nat)(f:D->LS->Option LS)(gt:LS->R Bool)(ge:LS->R D)(acc:List D)(L:LS):lcGo vs f gt ge [] acc L=.ok (.ol acc) L:=rfl
theorem ag9 (vs:List Nat)(f:D->LS->Option LS)(gt:LS->R Bool)(ge:LS->R D)(d:D)(ds acc:List D){L L1 L2 L3:LS}{y:D}(h1:f d L=some L1)(h2:gt L1=.ok true L2)(h3:ge L2=.ok y L3)(h4:acc.length < sizeLine) :
  lcGo vs f gt ge (d::ds) acc L=lcGo vs f gt ge ds (acc++[y]) (wipeL L3 vs):=by
 rw[lcGo]
 simp only[h1,h2,h3,if_pos,h4]
theorem aoa (i j:Int):dLt (.int i) (.int j)=some (.bool (decide (i < j))):=rfl
theorem aob (i j:Int):dLe (.int i) (.int j)=some (.bool (decide (i<=j))):=rfl
theorem aoc (i j:Int):dGt (.int i) (.int j)=some (.bool (decide (j < i))):=rfl
theorem aod (i j:Int):dGe (.int i) (.int j)=some (.bool (decide (j<=i))):=rfl
theorem aeb (i j:Int):PyData.eqv (.int i) (.int j)=decide (i=j):=by
 simp only[PyData.eqv]
 exact Bool.beq_eq_decide_eq i j
theorem aaR (i j:Str):PyData.eqv (.str i) (.str j)=decide (i=j):=by
 simp only[PyData.eqv]
 exact Bool.beq_eq_decide_eq i j
theorem abT (i j:Bool):PyData.eqv (.bool i) (.bool j)=decide (i=j):=by
 simp only[PyData.eqv]
 exact Bool.beq_eq_decide_eq i j
theorem aoe (i j:Int):dEq (.int i) (.int j)=some (.bool (decide (i=j))):=by
 unfold dEq;rw[if_pos (.inl rfl),aeb]
theorem aof (i j:Str):dEq (.str i) (.str j)=some (.bool (decide (i=j))):=by
 unfold dEq;rw[if_pos (.inl rfl),aaR]
theorem aog (i j:Bool):dEq (.bool i) (.bool j)=some (.bool (decide (i=j))):=by
 unfold dEq;rw[if_pos (.inl rfl),abT]
theorem aoh (i j:Int):dNe (.int i) (.int j)=some (.bool (!decide (i=j))):=by
 unfold dNe;rw[if_pos (.inl rfl),aeb]
theorem aoi (i j:Str):dNe (.str i) (.str j)=some (.bool (!decide (i=j))):=by
 unfold dNe;rw[if_pos (.inl rfl),aaR]
theorem aoj (i j:Bool):dIs (.bool i) (.bool j)=some (.bool (decide (i=j))):=rfl
theorem al5 (i j:Int):dSub (.int i) (.int j)=some (.int (i - j)):=rfl
theorem nJ {i j:Int}(h:0 < j):dMod (.int i) (.int j)=some (.int (i % j)):=if_pos (decide_eq_true h)
theorem xZ {i j:Int}(h:0 < j)(h2:j < 1073741824):dDiv (.int i) (.int j)=some (.int (i / j)):=if_pos (decide_eq_true ⟨h,h2⟩)
theorem aaS {i j:Int}(h:-(2 ^ 64) < i)(h2:i < 2 ^ 64):dMul (.int i) (.int j)=some (.d (.int (i * j))):=by
 have e:dMulI (.int i) (.int j)=some (.int (i * j)):=if_pos (decide_eq_true (.inl ⟨h,h2⟩))
 show(((dMulI (.int i) (.int j)).map S.d).orElse _)=_;rw[e]
 rfl
theorem ajS {i j:Int}(h:0<=j/\j<=1000000/\i.natAbs < 2 ^ 64):dPow (.int i) (.int j)=some (.int (i ^ j.toNat)):=if_pos (decide_eq_true h)
theorem al6 (xs:List D):dLen (.list xs)=some (.int xs.length):=rfl
theorem al7 (xs:List D):dLen (.tuple xs)=some (.int xs.length):=rfl
theorem al8 {x:Str}(h:x.length<=sizeLine):dLen (.str x)=some (.int x.length):=if_pos h
theorem ajT (xs:List D):dList (.list xs)=some (.ol xs):=rfl
theorem ajU (xs:List D):dList (.tuple xs)=some (.ol xs):=rfl
theorem aok (xs:List D)(lo hi:Option Int):dSl (.list xs) lo hi=some (.ol (cutD xs lo hi)):=rfl
theorem al9 {x:Str}(lo hi:Option Int)(h:x.length<=sizeLine):dSl (.str x) lo hi=some (.d (.str (cutS x lo hi))):=if_pos h
theorem ama (b:Bool):dNot (.bool b)=some (.bool (!b)):=rfl
end
theorem aha {P:Program}{w:World}{K:W.Frag}{mg:Str->Option Value}{base:Heap}{ca:Nat->Addr}{x:Str}{k:Nat}{ps:List Str}{md:List Bool}{f:Addr}{fd:FuncData}
  (hg:mg x=some (.ref f)) (hk:W.keepIn K (.ref f)=true) (hb:Binds K fd ps []):Dx P w K mg base ca x k ps md (λ _=>.stuck) :=
 ⟨f,fd,⟨λ vs H Q E h=>by obtain⟨_,_,_,_,_,_,_,z⟩:=h;exact z.elim,λ A outer s H args us vs Q E _ _ _ _ h=>by obtain⟨_,_,_,_,_,_,_,z⟩:=h;exact z.elim⟩,hg,hk,hb⟩
section
variable {c:Ct}{n n1 n2:Bool}{a b e:Expr}{es:List Expr}{ga gb:LS->R D}{gs:LS->R (List D)}{pos p:Pos}
theorem aec {G F H:Hp}{ow:Addr->Option Path}{σ:L2.St}{L:LS}{ds:List D}{v:V}(Rr:c.Rl G F ow σ H L)(hb:BV c.X.K F H ow (.list ds) v):∃ l vs,v=.ref l/\SqL c.X.K H l vs/\DqA c.X.K F vs ds:=by
 rcases hb with hb | ⟨l,vs,ds',rfl,e,h1,h2⟩
 ·cases hb with
  | lst h1 h2=>exact⟨_,_,rfl,.of (Rr.exF _ _ h1),h2⟩
 ·cases e
  exact⟨l,vs,rfl,h1,h2⟩
def srt (ns:List Int):List Int:=ns.mergeSort
def gA {α:Type}(f:List D->Option α)(gs:LS->R (List D)):LS->R α:=λ L=>(gs L).bind λ ds L1=>ofO (f ds) L1
def dMin:List D->Option D
 | [.int i,.int j]=>some (.int (if j < i then j else i))
 | _=>none
def dMax:List D->Option D
 | [.int i,.int j]=>some (.int (if j > i then j else i))
 | _=>none
def gOwnD (i:Nat)(k:List D->LS->R D):LS->R D:=λ L=>match L[i]? with
 | some (some (.ol ds))=>k ds L
 | _=>.stuck
def popK (i:Nat)(k:Int)(L:LS):R D:=match L[i]? with
 | some (some (.ol ds))=>if -(2 ^ 63)<=k/\k < 2 ^ 63 then(match seqIndex? k ds.length with
  | some j=>(match ds[j]? with
   | some d=>.ok d (L.set i (some (.ol (ds.eraseIdx j))))
   | none=>.stuck)
  | none=>.stuck) else .stuck
 | _=>.stuck
def popAt (i:Nat):D->LS->R D
 | .int k,L=>popK i k L
 | _,_=>.stuck
def gPopAt (i:Nat)(g:LS->R D):LS->R D:=gOwnD i λ _ L=>(g L).bind (popAt i)
def zipD:List D->List D->List D:=λ xs ys=>(xs.zip ys).map λ z=>.tuple [z.1,z.2]
def asZip:List D->LS->R (List D)
 | [.list xs,.list ys],L=>.ok (zipD xs ys) L
 | [.tuple xs,.tuple ys],L=>.ok (zipD xs ys) L
 | _,_=>.stuck
theorem yc (xs ys:List D):(zipD xs ys).length=min xs.length ys.length:=by unfold zipD;rw[List.length_map,List.length_zip]
theorem yd {xs ys:List D}{i:Nat}{d:D}(h:(zipD xs ys)[i]?=some d):∃ x y,xs[i]?=some x/\ys[i]?=some y/\d=.tuple [x,y]:=by
 unfold zipD at h;rw[List.getElem?_map]at h
 cases e:(xs.zip ys)[i]? with
 | none=>rw[e]at h;cases h
 | some z =>
  rw[e]at h;obtain⟨h1,h2⟩:=List.getElem?_zip_eq_some.mp e;exact⟨z.1,z.2,h1,h2,(Option.some.inj h).symm⟩
theorem aed {G H1 F1:Hp}{ow1:Addr->Option Path}{σ:L2.St}{L1:LS}{xs ys:List D}{vs:List V}(R1:c.Rl G F1 ow1 σ H1 L1)(b1:DqA c.X.K F1 vs [.list xs,.list ys]) :
  Post c G true F1 H1 σ (.ok (zipD xs ys) L1) (BI c.B c.X.K) (λ Q=>∃ a b xs ys,vs=[.ref a,.ref b]/\((SqL c.X.K H1 a xs/\SqL c.X.K H1 b ys/\Q (Itz c.X.K a b) H1)∨(SqT c.X.K H1 a xs/\SqT c.X.K H1 b ys/\Q (RZ.ItzT c.X.K a b) H1))):=by
 match vs,b1 with
 | _,.cons (@Dq.lst _ _ l us _ h1 h2) (.cons (@Dq.lst _ _ m ws _ h3 h4) .nil) =>
  refine(Post.val (a:=zipD xs ys) (b:=Itz c.X.K l m) (B:=BI c.B c.X.K) R1 λ i H s _=>⟨λ hi=>⟨us,ws,.of (s _ _ h1),.of (s _ _ h3),?_⟩,λ d hd=>?_⟩).imp λ Q q=>⟨l,m,us,ws,rfl,.inl ⟨.of (R1.exF _ _ h1),.of (R1.exF _ _ h3),q⟩⟩
  ·rw[yc]at hi;rw[h2.len,h4.len]
   omega
  ·obtain⟨x,y,hx,hy,rfl⟩:=yd hd;obtain⟨u,hu,ru⟩:=h2.get hx;obtain⟨z,hz,rz⟩:=h4.get hy;refine⟨⟨us,ws,u,z,.of (s _ _ h1),.of (s _ _ h3),hu,hz⟩,λ x' H' ⟨T,x1,y1,e1,e2,e3,e4,e5⟩=>.inr ⟨T,[x1,y1],[x,y],rfl,e1,e2,e3,?_⟩⟩
   have f1:=e4 us (.of (s _ _ h1))
   have f2:=e5 ws (.of (s _ _ h3))
   rw[hu]at f1;rw[hz]at f2
   cases f1
   cases f2
   exact .cons ru (.cons rz .nil)
theorem aee {G H1 F1:Hp}{ow1:Addr->Option Path}{σ:L2.St}{L1:LS}{xs ys:List D}{vs:List V}(R1:c.Rl G F1 ow1 σ H1 L1)(b1:DqA c.X.K F1 vs [.tuple xs,.tuple ys]) :
  Post c G true F1 H1 σ (.ok (zipD xs ys) L1) (BI c.B c.X.K) (λ Q=>∃ a b xs ys,vs=[.ref a,.ref b]/\((SqL c.X.K H1 a xs/\SqL c.X.K H1 b ys/\Q (Itz c.X.K a b) H1)∨(SqT c.X.K H1 a xs/\SqT c.X.K H1 b ys/\Q (RZ.ItzT c.X.K a b) H1))):=by
 match vs,b1 with
 | _,.cons (@Dq.tup _ _ l us _ h1 h2) (.cons (@Dq.tup _ _ m ws _ h3 h4) .nil) =>
  refine(Post.val (a:=zipD xs ys) (b:=RZ.ItzT c.X.K l m) (B:=BI c.B c.X.K) R1 λ i H s _=>⟨λ hi=>⟨us,ws,sqt_same s h1,sqt_same s h3,?_⟩,λ d hd=>?_⟩).imp λ Q q=>⟨l,m,us,ws,rfl,.inr ⟨sqt_same R1.exF h1,sqt_same R1.exF h3,q⟩⟩
  ·rw[yc]at hi;rw[h2.len,h4.len]
   omega
  ·obtain⟨x,y,hx,hy,rfl⟩:=yd hd;obtain⟨u,hu,ru⟩:=h2.get hx;obtain⟨z,hz,rz⟩:=h4.get hy;refine⟨⟨us,ws,u,z,sqt_same s h1,sqt_same s h3,hu,hz⟩,λ x' H' ⟨T,x1,y1,e1,e2,e3,e4,e5⟩=>.inr ⟨T,[x1,y1],[x,y],rfl,e1,e2,e3,?_⟩⟩
   have f1:=e4 us (sqt_same s h1)
   have f2:=e5 ws (sqt_same s h3)
   rw[hu]at f1;rw[hz]at f2
   cases f1
   cases f2
   exact .cons ru (.cons rz .nil)
theorem amb {tpos:Pos}{elts:List Expr}{kk:Nat}(hg:Gl c.X "zip") (hm:c.X.mg "zip"=none) (h:JA c n [a,b] gs)
  (hs:starEach [a,b] c.X.env=(false,eval a c.X.env)::starEach [b] c.X.env:=by rfl) (hpl:(backTo pos (starEach [b] c.X.env)).any (·.1)=false:=by rfl) :
  JI c n (.Tuple elts kk tpos) (.Call (.Name "zip" p) [a,b] [] pos) (λ L=>(gs L).bind asZip):=by
 obtain⟨t,q,k⟩:=h;refine⟨_,RZ.pi_zipA hg hm q hs hpl,λ G F ow σ H L Rr=>(k G F ow σ H L Rr).bind1 (t2:=λ vs H1 Q=>∃ a b xs ys,vs=[.ref a,.ref b]/\((SqL c.X.K H1 a xs/\SqL c.X.K H1 b ys/\Q (Itz c.X.K a b) H1)∨(SqT c.X.K H1 a xs/\SqT c.X.K H1 b ys/\Q (RZ.ItzT c.X.K a b) H1))) λ ds L1 vs H1 F1 ow1 _ _ _ R1 b1=>?_⟩;show Post c G true F1 H1 σ (asZip ds L1) _ _;unfold asZip
 split
 ·exact aed R1 b1
 ·exact aee R1 b1
 ·trivial
end
section
variable {c:Ct}{n n1 n2:Bool}{a b e:Expr}{es:List Expr}{ga gb:LS->R D}{gs:LS->R (List D)}{pos p p2:Pos}
end
section
variable {b:Bool}{i:Int}{s:Str}{xs:List D}
theorem aef:isTy "bool" .none=some (.bool false):=by
 show(kitB "NoneType" "bool").map PyData.bool=_;rw[show kitB "NoneType" "bool"=some false from by decide +kernel]
 rfl
theorem ahb:isTy "int" .none=some (.bool false):=by
 show(kitB "NoneType" "int").map PyData.bool=_;rw[show kitB "NoneType" "int"=some false from by decide +kernel]
 rfl
theorem ahc:isTy "str" .none=some (.bool false):=by
 show(kitB "NoneType" "str").map PyData.bool=_;rw[show kitB "NoneType" "str"=some false from by decide +kernel]
 rfl
theorem aeg:isTy "list" .none=some (.bool false):=by
 show(kitB "NoneType" "list").map PyData.bool=_;rw[show kitB "NoneType" "list"=some false from by decide +kernel]
 rfl
theorem acB:isTy "tuple" .none=some (.bool false):=by
 show(kitB "NoneType" "tuple").map PyData.bool=_;rw[show kitB "NoneType" "tuple"=some false from by decide +kernel]
 rfl
theorem aeh:isTy "bool" (.bool b)=some (.bool true):=by
 show(kitB "bool" "bool").map PyData.bool=_;rw[show kitB "bool" "bool"=some true from by decide +kernel]
 rfl
theorem ahd:isTy "int" (.bool b)=some (.bool true):=by
 show(kitB "bool" "int").map PyData.bool=_;rw[show kitB "bool" "int"=some true from by decide +kernel]
 rfl
theorem ahe:isTy "str" (.bool b)=some (.bool false):=by
 show(kitB "bool" "str").map PyData.bool=_;rw[show kitB "bool" "str"=some false from by decide +kernel]
 rfl
theorem aei:isTy "list" (.bool b)=some (.bool false):=by
 show(kitB "bool" "list").map PyData.bool=_;rw[show kitB "bool" "list"=some false from by decide +kernel]
 rfl
theorem acC:isTy "tuple" (.bool b)=some (.bool false):=by
 show(kitB "bool" "tuple").map PyData.bool=_;rw[show kitB "bool" "tuple"=some false from by decide +kernel]
 rfl
theorem aej:isTy "bool" (.int i)=some (.bool false):=by
 show(kitB "int" "bool").map PyData.bool=_;rw[show kitB "int" "bool"=some false from by decide +kernel]
 rfl
theorem ahf:isTy "int" (.int i)=some (.bool true):=by
 show(kitB "int" "int").map PyData.bool=_;rw[show kitB "int" "int"=some true from by decide +kernel]
 rfl
theorem ahg:isTy "str" (.int i)=some (.bool false):=by
 show(kitB "int" "str").map PyData.bool=_;rw[show kitB "int" "str"=some false from by decide +kernel]
 rfl
theorem aek:isTy "list" (.int i)=some (.bool false):=by
 show(kitB "int" "list").map PyData.bool=_;rw[show kitB "int" "list"=some false from by decide +kernel]
 rfl
theorem acD:isTy "tuple" (.int i)=some (.bool false):=by
 show(kitB "int" "tuple").map PyData.bool=_;rw[show kitB "int" "tuple"=some false from by decide +kernel]
 rfl
theorem ael:isTy "bool" (.str s)=some (.bool false):=by
 show(kitB "str" "bool").map PyData.bool=_;rw[show kitB "str" "bool"=some false from by decide +kernel]
 rfl
theorem ahh:isTy "int" (.str s)=some (.bool false):=by
 show(kitB "str" "int").map PyData.bool=_;rw[show kitB "str" "int"=some false from by decide +kernel]
 rfl
theorem ahi:isTy "str" (.str s)=some (.bool true):=by
 show(kitB "str" "str").map PyData.bool=_;rw[show kitB "str" "str"=some true from by decide +kernel]
 rfl
theorem aem:isTy "list" (.str s)=some (.bool false):=by
 show(kitB "str" "list").map PyData.bool=_;rw[show kitB "str" "list"=some false from by decide +kernel]
 rfl
theorem acE:isTy "tuple" (.str s)=some (.bool false):=by
 show(kitB "str" "tuple").map PyData.bool=_;rw[show kitB "str" "tuple"=some false from by decide +kernel]
 rfl
theorem aen:isTy "bool" (.list xs)=some (.bool false):=by
 show(kitB "list" "bool").map PyData.bool=_;rw[show kitB "list" "bool"=some false from by decide +kernel]
 rfl
theorem ahj:isTy "int" (.list xs)=some (.bool false):=by
 show(kitB "list" "int").map PyData.bool=_;rw[show kitB "list" "int"=some false from by decide +kernel]
 rfl
theorem ahk:isTy "str" (.list xs)=some (.bool false):=by
 show(kitB "list" "str").map PyData.bool=_;rw[show kitB "list" "str"=some false from by decide +kernel]
 rfl
theorem aeo:isTy "list" (.list xs)=some (.bool true):=by
 show(kitB "list" "list").map PyData.bool=_;rw[show kitB "list" "list"=some true from by decide +kernel]
 rfl
theorem acF:isTy "tuple" (.list xs)=some (.bool false):=by
 show(kitB "list" "tuple").map PyData.bool=_;rw[show kitB "list" "tuple"=some false from by decide +kernel]
 rfl
theorem aep:isTy "bool" (.tuple xs)=some (.bool false):=by
 show(kitB "tuple" "bool").map PyData.bool=_;rw[show kitB "tuple" "bool"=some false from by decide +kernel]
 rfl
theorem ahl:isTy "int" (.tuple xs)=some (.bool false):=by
 show(kitB "tuple" "int").map PyData.bool=_;rw[show kitB "tuple" "int"=some false from by decide +kernel]
 rfl
theorem ahm:isTy "str" (.tuple xs)=some (.bool false):=by
 show(kitB "tuple" "str").map PyData.bool=_;rw[show kitB "tuple" "str"=some false from by decide +kernel]
 rfl
theorem aeq:isTy "list" (.tuple xs)=some (.bool false):=by
 show(kitB "tuple" "list").map PyData.bool=_;rw[show kitB "tuple" "list"=some false from by decide +kernel]
 rfl
theorem acG:isTy "tuple" (.tuple xs)=some (.bool true):=by
 show(kitB "tuple" "tuple").map PyData.bool=_;rw[show kitB "tuple" "tuple"=some true from by decide +kernel]
 rfl
end
theorem amc:dIs .none .none=some (.bool true):=rfl
theorem amd (i:Int):dIs (.int i) .none=some (.bool false):=rfl
theorem ame (i:Bool):dIs (.bool i) .none=some (.bool false):=rfl
theorem amf (i:Str):dIs (.str i) .none=some (.bool false):=rfl
theorem amg (i:List D):dIs (.list i) .none=some (.bool false):=rfl
theorem amh (i:List D):dIs (.tuple i) .none=some (.bool false):=rfl
theorem aol (i j:Bool):dNe (.bool i) (.bool j)=some (.bool (!decide (i=j))):=by
 unfold dNe;rw[if_pos (.inl rfl),abT]
def aK {α:Type}(f:List D->Option α)(r:R (List D)):R α:=r.bind λ ds L1=>ofO (f ds) L1
theorem apf {α:Type}(f:List D->Option α)(gs:LS->R (List D))(L:LS):gA f gs L=aK f (gs L):=rfl
theorem aom {α:Type}(f:List D->Option α)(ds:List D)(L:LS):aK f (.ok ds L)=ofO (f ds) L:=rfl
theorem ami {α:Type}(f:List D->Option α)(e:Nat)(L:LS):aK f (.err e L)=.err e L:=rfl
theorem ajV (i j:Int):dMin [.int i,.int j]=some (.int (min i j)):=by
 show some (PyData.int (if j < i then j else i))=_
 congr 2
 by_cases h:j < i
 ·rw[if_pos h];omega
 ·rw[if_neg h];omega
theorem ajW (i j:Int):dMax [.int i,.int j]=some (.int (max i j)):=by
 show some (PyData.int (if j > i then j else i))=_
 congr 2
 by_cases h:j > i
 ·rw[if_pos h];omega
 ·rw[if_neg h];omega
theorem ajX (xs ys:List D)(L:LS):asZip [.list xs,.list ys] L=.ok (zipD xs ys) L:=rfl
theorem ajY (xs ys:List D)(L:LS):asZip [.tuple xs,.tuple ys] L=.ok (zipD xs ys) L:=rfl
def ajZ (i:Nat)(o:Option (Option S))(g:LS->R D)(L:LS):R D:=match o with
 | some (some (.ol _))=>(g L).bind (popAt i)
 | _=>.stuck
theorem amj (i:Nat)(g:LS->R D)(L:LS):gPopAt i g L=ajZ i L[i]? g L:=by
 unfold gPopAt gOwnD ajZ
 cases L[i]? with
 | none=>rfl
 | some o=>cases o with
  | none=>rfl
  | some s=>cases s<;>rfl
def aon (i:Nat)(r:R D):R D:=r.bind (popAt i)
theorem ahn (i:Nat)(ds:List D)(g:LS->R D)(L:LS):ajZ i (some (some (.ol ds))) g L=aon i (g L):=rfl
def eqs (k:Str)(v:Value):Bool:=match v with
 | .str n _=>n.cps.toList == k.cps.toList
 | _=>false
theorem zL {k:Str}{t:Tok}:∀ {us:List Value} {ys:List Str},Vals (ys.map V.str) us->∀ y∈us,MeetsSeq.EqGives y (.str k t) (eqs k y)
 | _,[],.nil=>λ y hy=>by cases hy
 | _,x::ys,.cons ⟨t',e⟩ h=>λ y hy=>by
  rcases List.mem_cons.mp hy with e2 | e2
  ·rw[e2,e];exact SeqRoads2.EqGives.str x k t' t
  ·exact zL h y e2
def jC (k:Str)(ys:List Str):Nat:=ys.countP λ y=>y.cps.toList == k.cps.toList
theorem zM {k:Str}:∀ {us:List Value} {ys:List Str},Vals (ys.map V.str) us->us.countP (eqs k)=jC k ys
 | _,[],.nil=>rfl
 | _,x::ys,.cons ⟨t',e⟩ h=>by
  have ih:=zM (k:=k) h
  unfold jC at *;rw[List.countP_cons,List.countP_cons,ih,e]
  rfl
def rCntS (K:W.Frag):V->List V->Hp->VK->Prop:=λ x xs H Q=>∃ (p:Addr) (ys:List Str) (k:Str),x=.ref p/\xs=[.str k]/\SqL K H p (ys.map V.str)/\Q (.int (jC k ys:Nat)) H
theorem aer {X:Cx}:MtR X "list.count" (rCntS X.K):=by
 intro pins s σ H x xs v us Q I rx rxs h;obtain⟨p,ys,k,rfl,rfl,hs,q⟩:=h
 cases rx
 obtain⟨u,rfl,ru⟩:=rxs.one;obtain⟨t,rfl⟩:=ru;obtain⟨its,rv,⟨⟨cls,dd,data,sl⟩,n,ho,hc,hdn,hd⟩,hlen⟩:=I.list hs
 simp only at hc hd
 subst hc hd
 refine call_meets PySem.F.slot_list_count ⟨_,ho,rfl⟩ PySem.F.entry_list_count (PySem.F.args_list_count_2 _ _)
  (SeqAt.list_countAt p its.toArray n dd sl (.str k t) (eqs k)) ⟨ho,λ y hy=>(zL rv y (by simpa using hy)).at _ _,?_⟩
 have ec:its.toArray.toList.countP (eqs k)=jC k ys:=zM rv
 refine⟨.int (jC k ys:Nat),H,I.tok _,⟨s.toks,?_⟩,q⟩;show Value.int ((its.toArray.toList.countP (eqs k):Nat):Int) s.toks=Value.int ((jC k ys:Nat):Int) s.toks;rw[ec]
def dCount:D->D->Option D
 | .list ds,.str k=>(strsOf ds).map λ ys=>.int (jC k ys:Nat)
 | _,_=>none
def cntL (gb:LS->R D):D->LS->R D
 | .list ds,L1=>(gb L1).bind λ e L2=>ofO (dCount (.list ds) e) L2
 | _,_=>.stuck
def gCount (ga gb:LS->R D):LS->R D:=λ L=>(ga L).bind (cntL gb)
def amk (gb:LS->R D)(r:R D):R D:=r.bind (cntL gb)
def aml (ds:List D)(r:R D):R D:=r.bind λ e L2=>ofO (dCount (.list ds) e) L2
theorem amm (ga gb:LS->R D)(L:LS):gCount ga gb L=amk gb (ga L):=rfl
theorem aho (gb:LS->R D)(ds:List D)(L:LS):amk gb (.ok (.list ds) L)=aml ds (gb L):=rfl
theorem ahp (ds:List D)(e:D)(L:LS):aml ds (.ok e L)=ofO (dCount (.list ds) e) L:=rfl
section
variable {c:Ct}{n n1 n2:Bool}{a b e:Expr}{es:List Expr}{ga gb:LS->R D}{gs:LS->R (List D)}{pos p p2 apos:Pos}
theorem aes (ha:JV c n1 a ga)(hb:JD c true b gb)
  (hbase:attributeBase a "count" c.X.env (eval a c.X.env)=eval a c.X.env:=by rfl)
  (hfew:((backTo pos (starEach [b] c.X.env)).all (λ x=>!x.1)&&(backToKw pos (keywordEach [] c.X.env)).all (λ x=>x.1.isSome)&&decide ([b].length+([]:List Keyword).length+(if([]:List Keyword).isEmpty then 0 else 1) < 30))=true:=by rfl)
  (hline:(apos.endLine == pos.line)=true:=by rfl) (hs:starEach [b] c.X.env=(false,eval b c.X.env)::starEach [] c.X.env:=by rfl) (hplain:(backTo pos (starEach [] c.X.env)).any (·.1)=false:=by rfl) :
  JD c n1 (.Call (.Attribute a "count" apos) [b] [] pos) (gCount ga gb):=by
 obtain⟨ta,p1,q1⟩:=ha;obtain⟨tb,p2,q2⟩:=hb;refine⟨_,pe_bm PySem.F.plainAttrs_list PySem.F.slot_list_count PySem.F.type_list_count aer p1 (pa_cons p2 pa_nil hs) hbase hfew hline hs hplain,λ G F ow σ H L Rr=>?_⟩;refine(q1 G F ow σ H L Rr).bind1 (t2:=λ v H1 Q=>tyV c.X.K "list" v H1/\tb σ H1 λ y H2=>rCntS c.X.K v [y] H2 Q) λ d L1 v H1 F1 ow1 _ _ _ R1 b1=>?_
 cases d with
 | list ds =>
  obtain⟨l,vs,rfl,h1,h2⟩:=aec R1 b1
  have key:=(q2 G F1 ow1 σ H1 L1 R1).bind1 (k:=λ e L2=>ofO (dCount (.list ds) e) L2) (B2:=BD c.X.K) (t2:=λ y H2 Q=>rCntS c.X.K (.ref l) [y] H2 Q) λ e L2 u H2 F2 ow2 _ e2 s2 R2 b2=>by
   cases b2 with
   | str k =>
    show Post c G true F2 H2 σ (ofO ((strsOf ds).map λ ys=>PyData.int (jC k ys:Nat)) L2) _ _
    cases hk:strsOf ds with
    | none=>trivial
    | some ys =>
     have e3:=uY h2 hk
     exact(Post.val (a:=PyData.int (jC k ys:Nat)) (b:=V.int (jC k ys:Nat)) (B:=BD c.X.K) R2 (.int _)).imp λ Q q=>⟨l,ys,k,rfl,rfl,by rw[←e3];exact sql_same (s2 rfl) h1,q⟩
   | _=>trivial
  exact key.imp λ Q q=>⟨.inl ⟨rfl,_,h1⟩,q⟩
 | _=>trivial
end
def evs:=And.intro @jw (And.intro @fV (And.intro @adL (And.intro @ai6 (And.intro @ai7 (And.intro @agq (And.intro @adM (And.intro @ev_if (And.intro @abO (And.intro @ai8 (And.intro @alv (And.intro @ai9 (And.intro @agr (And.intro @alw (And.intro @aja (And.intro @ags (And.intro @ajb (And.intro @ajc (And.intro @agt (And.intro @adN (And.intro @ev_c (And.intro @apd (And.intro @anI (And.intro @alx (And.intro @anJ (And.intro @anK (And.intro @anL (And.intro @ajd (And.intro @ev_op (And.intro @aje (And.intro @agu (And.intro @ajf (And.intro @agv (And.intro @ev_un (And.intro @aly (And.intro @ajg (And.intro @alz (And.intro @ape (And.intro @anO (And.intro @alA (And.intro @alB (And.intro @ajh (And.intro @agw (And.intro @anP (And.intro @alC (And.intro @aji (And.intro @alD (And.intro @ajj (And.intro @ev_andV (And.intro @agx (And.intro @ev_orV (And.intro @ajk (And.intro @alE (And.intro @ajl (And.intro @alF (And.intro @adR (And.intro @adS (And.intro @acy (And.intro @adT (And.intro @acz (And.intro @alG (And.intro @ajm (And.intro @alH (And.intro @ajn (And.intro @ev_var (And.intro @alI (And.intro @alJ (And.intro @ajo (And.intro @ajp (And.intro @ajq (And.intro @ajr (And.intro @ajs (And.intro @ajt (And.intro @aju (And.intro @alK (And.intro @alL (And.intro @ajv (And.intro @agy (And.intro @ajw (And.intro @qH (And.intro @rJ (And.intro @alM (And.intro @alN (And.intro @alO (And.intro @alP (And.intro @alQ (And.intro @alR (And.intro @alS (And.intro @alT (And.intro @alU (And.intro @agz (And.intro @agA (And.intro @adU (And.intro @agB (And.intro @agC (And.intro @ajy (And.intro @ajz (And.intro @ajA (And.intro @ajB (And.intro @ajC (And.intro @anR (And.intro @ajD (And.intro @ajE (And.intro @ajF (And.intro @anS (And.intro @anT (And.intro @alX (And.intro @ajG (And.intro @ajH (And.intro @adV (And.intro @adW (And.intro @al0 (And.intro @agD (And.intro @agE (And.intro @adX (And.intro @agF (And.intro @anV (And.intro @anW (And.intro @anY (And.intro @ajJ (And.intro @agG (And.intro @ajK (And.intro @ajL (And.intro @agH (And.intro @ev_call (And.intro @agI (And.intro @agJ (And.intro @agK (And.intro @agL (And.intro @agM (And.intro @agN (And.intro @agO (And.intro @agP (And.intro @agQ (And.intro @agR (And.intro @agS (And.intro @agT (And.intro @agU (And.intro @agV (And.intro @agW (And.intro @agX (And.intro @adY (And.intro @agY (And.intro @adZ (And.intro @agZ (And.intro @ag0 (And.intro @ad0 (And.intro @ad1 (And.intro @aaP (And.intro @ag1 (And.intro @al1 (And.intro @al2 (And.intro @abQ (And.intro @ag3 (And.intro @ag4 (And.intro @ad2 (And.intro @ajM (And.intro @ajN (And.intro @ad3 (And.intro @abR (And.intro @xX (And.intro @zK (And.intro @rK (And.intro @ag5 (And.intro @ag6 (And.intro @xY (And.intro @ad4 (And.intro @aaQ (And.intro @ad5 (And.intro @ad6 (And.intro @ad7 (And.intro @ajO (And.intro @ajP (And.intro @ag7 (And.intro @ajQ (And.intro @ad8 (And.intro @ajR (And.intro @ag8 (And.intro @ad9 (And.intro @anZ (And.intro @al3 (And.intro @aea (And.intro @acA (And.intro @al4 (And.intro @abS (And.intro @aoa (And.intro @aob (And.intro @aoc (And.intro @aod (And.intro @aoe (And.intro @aof (And.intro @aog (And.intro @aoh (And.intro @aoi (And.intro @aoj (And.intro @al5 (And.intro @al6 (And.intro @al7 (And.intro @ajT (And.intro @ajU (And.intro @aok (And.intro @ama (And.intro @aef (And.intro @ahb (And.intro @ahc (And.intro @aeg (And.intro @acB (And.intro @aeh (And.intro @ahd (And.intro @ahe (And.intro @aei (And.intro @acC (And.intro @aej (And.intro @ahf (And.intro @ahg (And.intro @aek (And.intro @acD (And.intro @ael (And.intro @ahh (And.intro @ahi (And.intro @aem (And.intro @acE (And.intro @aen (And.intro @ahj (And.intro @ahk (And.intro @aeo (And.intro @acF (And.intro @aep (And.intro @ahl (And.intro @ahm (And.intro @aeq (And.intro @acG (And.intro @amc (And.intro @amd (And.intro @ame (And.intro @amf (And.intro @amg (And.intro @amh (And.intro @aol (And.intro @apf (And.intro @aom (And.intro @ami (And.intro @ajV (And.intro @ajW (And.intro @ajX (And.intro @ajY (And.intro @amj (And.intro @ahn (And.intro @amm (And.intro @aho (And.intro @ahp (And.intro @agd (And.intro @af8 (And.intro @af9 (And.intro @List.getElem?_cons_zero.{0} (And.intro @List.getElem?_cons_succ.{0} (And.intro @List.set_cons_zero.{0} (And.intro @List.set_cons_succ.{0} (And.intro @List.length_cons.{0} (And.intro @List.length_nil.{0} (And.intro @List.cons_append.{0} (And.intro @List.nil_append.{0} (And.intro @List.replicate_succ.{0} (And.intro @List.replicate_zero.{0} (And.intro @List.map_cons.{0,0} (And.intro @List.map_nil.{0,0} (And.intro @Option.join_some.{0} (And.intro @List.append_nil.{0} (And.intro @if_true.{1} (And.intro @if_false.{1} (And.intro @decide_true (And.intro @decide_false (And.intro @Bool.false_eq_true (And.intro @Bool.not_true (@Bool.not_false))))))))))))))))))))))))))))))))))))))))))))))))))))))))))))))))))))))))))))))))))))))))))))))))))))))))))))))))))))))))))))))))))))))))))))))))))))))))))))))))))))))))))))))))))))))))))))))))))))))))))))))))))))))))))))))))))))))))))))))))))))))))))))))))))))))))))))))))))
def keyD:D->Option Key
 | .int i=>some (.inl i)
 | .str x=>some (.inr x)
 | _=>none
def keysL:List D->Option (List Key)
 | []=>some []
 | d::ds=>(keyD d).bind λ k=>(keysL ds).map (k::·)
def keysD:D->Option (List Key)
 | .tuple ds=>keysL ds
 | _=>none
theorem aaT {K:W.Frag}{F:Hp}{v:V}{d:D}{k:Key}(h:Dq K F v d)(e:keyD d=some k):v=kV k:=by
 cases h<;>cases e<;>rfl
theorem abU {K:W.Frag}{F:Hp}:∀ {ds:List D} {vs:List V} {ks:List Key},DqA K F vs ds->keysL ds=some ks->vs=ks.map kV
 | [],_,_,.nil,h=>by cases h;rfl
 | d::ds,_,ks,.cons a b,h=>by
  have h:(keyD d).bind (λ k=>(keysL ds).map (k::·))=some ks:=h
  cases e1:keyD d with
  | none=>rw[e1]at h;cases h
  | some k =>
   rw[e1]at h
   have h:(keysL ds).map (k::·)=some ks:=h
   cases e2:keysL ds with
   | none=>rw[e2]at h;cases h
   | some ms =>
    rw[e2]at h
    cases h
    rw[aaT a e1,abU b e2]
    rfl
def OptOk (K:W.Frag)(F:Hp)(o:Option V)(r:Option D):Prop:=match r with
 | some z=>∃ v,o=some v/\Dq K F v z
 | none=>o=none
section
variable {κ:Type}[DecidableEq κ]
def valK (kvs:List (κ×D))(k:κ):Option D:=(kvs.find? λ kv=>decide (kv.1=k)).map (·.2)
def putD (kvs:List (κ×D))(k:κ)(d:D):List (κ×D):=if(kvs.any λ kv=>decide (kv.1=k))=true then kvs.map (λ kv=>if kv.1=k then(kv.1,d) else kv) else kvs++[(k,d)]
theorem DqK.val {K:W.Frag}{F:Hp}:∀ {vs:List (κ×V)} {ds:List (κ×D)} (k:κ),DqK K F vs ds->OptOk K F (valV vs k) (valK ds k)
 | [],[],k,.nil=>rfl
 | p::vs,q::ds,k,.cons h r=>by
  have ih:=DqK.val k r
  unfold valK valV at *
  by_cases hk:q.1=k
  ·rw[List.find?_cons_of_pos (l:=vs) (by simp[h.1,hk]),List.find?_cons_of_pos (l:=ds) (by simp[hk])]
   exact⟨_,rfl,h.2⟩
  ·rw[List.find?_cons_of_neg (l:=vs) (by simp[h.1,hk]),List.find?_cons_of_neg (l:=ds) (by simp[hk])]
   exact ih
theorem DqK.any {K:W.Frag}{F:Hp}(k:κ):∀ {vs:List (κ×V)} {ds:List (κ×D)},DqK K F vs ds->(vs.any λ kv=>decide (kv.1=k))=(ds.any λ kv=>decide (kv.1=k))
 | [],[],.nil=>rfl
 | p::vs,q::ds,.cons h r=>by
  rw[List.any_cons,List.any_cons,DqK.any k r,h.1]
theorem DqK.mapk {K:W.Frag}{F:Hp}(k:κ){v:V}{d:D}(hv:Dq K F v d):∀ {vs:List (κ×V)} {ds:List (κ×D)},DqK K F vs ds->DqK K F (vs.map λ kv=>if kv.1=k then(kv.1,v) else kv) (ds.map λ kv=>if kv.1=k then(kv.1,d) else kv)
 | [],[],.nil=>.nil
 | p::vs,q::ds,.cons h r=>by
  refine .cons ?_ (DqK.mapk k hv r)
  show(if p.1=k then(p.1,v) else p).1=(if q.1=k then(q.1,d) else q).1/\Dq K F (if p.1=k then(p.1,v) else p).2 (if q.1=k then(q.1,d) else q).2
  by_cases hk:q.1=k
  ·rw[if_pos hk,if_pos (h.1.trans hk)]
   exact⟨h.1,hv⟩
  ·rw[if_neg hk,if_neg (λ z=>hk (h.1.symm.trans z))]
   exact h
theorem DqK.snoc {K:W.Frag}{F:Hp}{k:κ}{v:V}{d:D}(hv:Dq K F v d):∀ {vs:List (κ×V)} {ds:List (κ×D)},DqK K F vs ds->DqK K F (vs++[(k,v)]) (ds++[(k,d)])
 | [],[],.nil=>.cons ⟨rfl,hv⟩ .nil
 | p::vs,q::ds,.cons h r=>.cons h (DqK.snoc hv r)
theorem DqK.put {K:W.Frag}{F:Hp}{vs:List (κ×V)}{ds:List (κ×D)}(k:κ){v:V}{d:D}(h:DqK K F vs ds)(hv:Dq K F v d):DqK K F (putK vs k v) (putD ds k d):=by
 unfold putK putD
 rw[DqK.any k h]
 split
 ·exact DqK.mapk k hv h
 ·exact DqK.snoc hv h
theorem DqK.len {K:W.Frag}{F:Hp}:∀ {vs:List (κ×V)} {ds:List (κ×D)},DqK K F vs ds->vs.length=ds.length
 | [],[],.nil=>rfl
 | p::vs,q::ds,.cons h r=>congrArg (·+1) (DqK.len r)
end
def dictAt (s:Option (Option S))(d:D):Option (Option D):=match s with
 | some (some (.odT kvs))=>(keysD d).map (valK kvs)
 | some (some (.odK kvs))=>(keyD d).map (valK kvs)
 | _=>none
section
variable {c:Ct}{n n1 n2:Bool}{a b e:Expr}{ga gb:LS->R D}{pos p:Pos}
theorem ahq {G F H:Hp}{ow:Addr->Option Path}{σ:L2.St}{L:LS}{i:Nat}{d:D}{y:V}{r:Option D}(Rr:c.Rl G F ow σ H L)(hd:Dq c.X.K F y d)(h:dictAt L[i]? d=some r) :
  ∃ l o,σ[i]?=some (some (.ref l))/\DGet H l y o/\OptOk c.X.K F o r:=by
 unfold dictAt at h
 split at h
 ·rename_i kvs hL
  obtain⟨v,hv,rs⟩:=Rr.sl i _ hL;obtain⟨ks,hk,rfl⟩:=Option.map_eq_some_iff.mp h
  cases rs with
  | odT h1 h2 h3 =>
   rename_i l vs
   unfold keysD at hk
   split at hk
   ·rename_i ds
    cases hd with
    | tup t1 t2 =>
     rename_i b xs
     have ex:=abU t2 hk
     subst ex
     exact⟨l,valV vs ks,hv,DGet.t h1 (Rr.exF _ _ t1),DqK.val ks h3⟩
   ·cases hk
 ·rename_i kvs hL
  obtain⟨v,hv,rs⟩:=Rr.sl i _ hL;obtain⟨k,hk,rfl⟩:=Option.map_eq_some_iff.mp h
  cases rs with
  | odK h1 h2 h3 =>
   rename_i l vs
   have ey:=aaT hd hk
   subst ey
   exact⟨l,valV vs k,hv,DGet.k h1,DqK.val k h3⟩
 ·cases h
end
section
variable {c:Ct}{n n1 n2 n3:Bool}{a b:Expr}{ga gb:LS->R D}{ge:LS->R S}{pos:Pos}{es:List Expr}{as:List Ar}
theorem Rl.snoc {G F H:Hp}{ow:Addr->Option Path}{σ:L2.St}{L:LS}{s:S}{v:V}(Rr:c.Rl G F ow σ H L)(rs:RS c.X.K c.ca F H ow [0] s v):c.Rl G F (reroot ow 0 (L.length+1)) (σ++[some v]) H (L++[some s]):=by
 have hl:=Rr.len
 refine Rl.moved Rr (by rw[List.length_append,List.length_append,hl];rfl) (λ k s' h=>?_) λ k u h=>?_
 ·by_cases hk:k < L.length
  ·rw[List.getElem?_append_left hk]at h;refine .inl ⟨h,?_,Nat.succ_ne_zero k⟩;rw[List.getElem?_append_left (by omega)]
  ·have hk2:k=L.length:=by
    have:=(List.getElem?_eq_some_iff.mp h).1
    rw[List.length_append]at this
    simp at this
    omega
   subst hk2
   rw[List.getElem?_append_right (Nat.le_refl _),Nat.sub_self]at h
   cases h
   refine .inr ⟨v,?_,rs.go (Same.refl F) oK⟩;rw[hl,List.getElem?_append_right (Nat.le_refl _),Nat.sub_self]
   rfl
 ·have:=Rr.pin k u h
  have hk:=(List.getElem?_eq_some_iff.mp this).1
  rw[List.getElem?_append_left hk];exact this
theorem AvOk.snoc {K:W.Frag}{σ:L2.St}{F:Hp}{v:V}{k:Nat}(hk:k=σ.length):∀ {xs:List Av} {us:List V},AvOk K σ F xs us->AvOk K (σ++[some v]) F (xs++[.r k]) (us++[v])
 | [],[],.nil=>.cons (by
  show(σ++[some v])[k]?=some (some v)
  rw[hk,List.getElem?_append_right (Nat.le_refl _),Nat.sub_self]
  rfl) .nil
 | .d d::xs,u::us,.cons h r=>.cons h (AvOk.snoc hk r)
 | .r i::xs,u::us,.cons h r=>.cons (by
  have h:σ[i]?=some (some u):=h
  show(σ++[some v])[i]?=some (some u)
  rw[List.getElem?_append_left (List.getElem?_eq_some_iff.mp h).1]
  exact h) (AvOk.snoc hk r)
end
section
variable {c:Ct}{n:Bool}{a:Expr}{ga:LS->R D}{pos p:Pos}
end
section
variable {c:Ct}{n n1 n2 n3:Bool}{a b:Expr}{ga gb:LS->R D}{ge:LS->R S}{pos:Pos}{es:List Expr}{as:List Ar}
end
section
variable {c:Ct}{n:Bool}{a:Expr}{gs:LS->R (List D)}{p pos:Pos}
end
def scal:D->Bool
 | .none=>true
 | .bool _=>true
 | .int _=>true
 | .str _=>true
 | _=>false
section
variable {c:Ct}{n n1 n2 n3:Bool}{a b:Expr}{ga gb:LS->R D}{gs:LS->R (List D)}{ge:LS->R S}{pos:Pos}{es:List Expr}
end
open PySem.W (EachIs AllAlike Sortable dataLe)
def aio:D->Bool
 | .tuple (_::_)=>true
 | _=>false
def noTup:D->Bool
 | .none=>false
 | .tuple _=>false
 | _=>true
def sortOk (ds:List D):Bool:=(ds.all λ d=>ds.all λ e=>W.alike d e)&&((ds.all aio||ds.all noTup)&&((ds.all λ d=>decide (d.depth<=60))&&decide (ds.length<=sizeLine)))
section
variable {c:Ct}{n:Bool}{a:Expr}{ga:LS->R D}{p pos:Pos}{k:Nat}
end
end VS
namespace VS
open PySem PySem.Spec PyProof.Rows L2
open PySem.W (EachIs AllAlike Sortable dataLe)
def kD:Key->D
 | .inl i=>.int i
 | .inr x=>.str x
end VS
namespace VS
open PySem PySem.Spec PyProof.Rows L2
open PySem.W (EachIs AllAlike Sortable dataLe)
section
variable {c:Ct}{n:Bool}{a:Expr}{ga:LS->R S}{p pos:Pos}{k:Nat}
end
end VS
namespace VS
open PySem PySem.Spec PyProof.Rows L2
section
variable {c:Ct}{n:Bool}{a:Expr}{ga:LS->R D}{p pos:Pos}
end
end VS
namespace VS
open PySem PySem.Spec PyProof.Rows
def ddAdd (σ:List Str)(x:Str):List Str:=if σ.any (· == x)=true then σ else σ++[x]
def ddS (xs:List Str):List Str:=xs.foldl ddAdd []
theorem aet (σ:List Str)(x:Str):(ddAdd σ x).length=if σ.any (· == x) then σ.length else σ.length+1:=by
 unfold ddAdd
 split<;>simp
theorem vf:∀ (xs σ:List Str),(xs.foldl ddAdd σ).length<=σ.length+xs.length
 | [],σ=>Nat.le_refl _
 | x::xs,σ=>by
  have h1:=vf xs (ddAdd σ x)
  have h2:=aet σ x
  rw[List.foldl_cons,List.length_cons]
  split at h2<;>omega
theorem amn (xs:List Str):(ddS xs).length<=xs.length:=by
 have:=vf xs []
 rw[List.length_nil,Nat.zero_add]at this;exact this
section
variable {prog:Program}{w:World}{A:Around}{R:Result->Shared->Prop}{I:Addr}{fp wr:List Addr}{G:Array GenState->Array GenState->Prop}{n:Nat}{P:Nat->Value->Prop}{St:Nat->Shared->Prop}
end
section
variable {prog:Program}{w:World}{A:Around}{E:Value->Shared->Prop}{s:Shared}
end
end VS
namespace VS
open PySem PySem.Spec PyProof.Rows L2
section
variable {K:W.Frag}{ca:Nat->Addr}{bh:Hp}{pn:List (Option V)}{G F H:Hp}{ow:Addr->Option Path}{σ:L2.St}{L:LS}
end
section
variable {c:Ct}{n:Bool}{a:Expr}{ge ga:LS->R S}{gb:LS->R D}{p pos cpos apos tpos:Pos}{k:Nat}{elts:List Expr}{kk:Nat}
end
section
variable {K:W.Frag}{ca:Nat->Addr}{bh:Hp}{pn:List (Option V)}{G F H:Hp}{ow:Addr->Option Path}{σ:L2.St}{L:LS}{l:Addr}{o:HO}
theorem Rl.newG (r:Rl K ca bh pn G F ow σ H L){l:Addr}{o:HO}(hl:H l=none):Same H (upd H l o)/\Rl K ca bh pn (upd G l o) F ow σ (upd H l o) L:=by
 have e:Same H (upd H l o):=eX hl
 have fN:F l=none:=r.exF.free hl
 have hne:∀ a p,ow a=some p->a≠l:=λ a p h=>pG (r.dF a p h).2.2.1 hl
 refine⟨e,r.exF.trans e,λ a u h=>?_,λ a q h=>?_,λ a u h=>?_,r.len,λ i s h=>?_,r.pin,r.exB.trans e,r.dB⟩
 ·by_cases z:a=l
  ·subst z
   rw[upd_same]at h ⊢;exact h
  ·rw[upd_ne z]at h ⊢;exact r.exG a u h
 ·have z:=hne a q h
  obtain⟨x,y,w⟩:=r.dF a q h;exact⟨x,by rw[upd_ne z];exact y,by rw[upd_ne z];exact w⟩
 ·have z:a≠l:=ne_of_none h fN
  rw[upd_ne z];exact r.dG a u h
 ·obtain⟨v,q1,q2⟩:=r.sl i s h;exact⟨v,q1,q2.go (Same.refl F) λ a w h=>⟨upd_ne (hne a _ h),h⟩⟩
theorem Rl.weakG (r:Rl K ca bh pn (upd G l o) F ow σ H L)(hG:G l=none):Rl K ca bh pn G F ow σ H L:=by
 have hs:∀ a,upd G l o a=none->G a=none:=λ a h=>by
  by_cases z:a=l
  ·subst z
   exact hG
  ·rw[upd_ne z]at h;exact h
 refine⟨r.exF,λ a u h=>?_,λ a q h=>?_,λ a u h=>?_,r.len,r.sl,r.pin,r.exB,r.dB⟩
 ·exact r.exG a u (by rw[upd_ne (ne_of_none h hG)];exact h)
 ·obtain⟨x,y,w⟩:=r.dF a q h;exact⟨x,hs a y,w⟩
 ·rcases r.dG a u h with q | q
  ·exact .inl (hs a q)
  ·exact .inr q
theorem Rl.ownG {p:Path}{u:HO}(r:Rl K ca bh pn (upd G l o) F ow σ H L)(hG:G l=none)(hB:bh l=none)(ho:¬ kT o)(hu:¬ kT u):Rl K ca bh pn G F (onAt ow l p) σ (upd H l u) L:=by
 have hH:H l=some o:=r.exG l o upd_same
 have fN:F l=none:=by
  cases z:F l with
  | none=>rfl
  | some w =>
   have h1:=r.exF l w z
   rw[hH]at h1
   cases h1
   rcases r.dG l _ z with q | q
   ·rw[upd_same]at q;cases q
   ·exact absurd q ho
 have hne:∀ a q,ow a=some q->a≠l:=λ a q h z=>by
  subst z
  have:=(r.dF a q h).2.1
  rw[upd_same]at this
  cases this
 refine⟨λ a w h=>?_,λ a w h=>?_,λ a q h=>?_,λ a w h=>?_,r.len,λ i s h=>?_,r.pin,λ a w h=>?_,λ a q h=>?_⟩
 ·rw[upd_ne (ne_of_none h fN)];exact r.exF a w h
 ·have z:=ne_of_none h hG
  rw[upd_ne z];exact r.exG a w (by rw[upd_ne z];exact h)
 ·by_cases z:a=l
  ·subst z
   exact⟨fN,hG,by rw[upd_same];exact .of hu⟩
  ·rw[nA z]at h;obtain⟨x,y,w⟩:=r.dF a q h;exact⟨x,by rw[upd_ne z]at y;exact y,by rw[upd_ne z];exact w⟩
 ·have z:=ne_of_none h fN
  rcases r.dG a w h with q | q
  ·rw[upd_ne z]at q;exact .inl q
  ·exact .inr q
 ·obtain⟨v,q1,q2⟩:=r.sl i s h;refine⟨v,q1,q2.go (Same.refl F) λ a w h=>?_⟩
  have z:=hne a _ h
  exact⟨upd_ne z,by rw[nA z];exact h⟩
 ·have z:=ne_of_none h hB
  rw[upd_ne z];exact r.exB a w h
 ·by_cases z:a=l
  ·subst z
   exact hB
  ·rw[nA z]at h;exact r.dB a q h
end
section
variable {c:Ct}{n n2:Bool}{a b:Expr}{ga gb:LS->R D}{pos:Pos}
end
section
variable {c:Ct}{n n1 n2:Bool}{a b e:Expr}{es:List Expr}{ga gb:LS->R D}{gs:LS->R (List D)}{pos p p2 apos:Pos}{k:Nat}
end
end VS
namespace PySem
open Sem (wp)
open AutoSeq1 (wpAny_loadPart')
section
variable {prog:Program}{w:World}{A:Around}{E:Value->Shared->Prop}{s:Shared}
end
end PySem
namespace L2
open PySem PySem.Spec PyProof.Rows
section
variable {X:Cx}{e:Expr}{te:St->Hp->(Int->Int->Hp->Prop)->Prop}
end
end L2
namespace VS
open PySem PySem.Spec PyProof.Rows L2
section
variable {c:Ct}{n:Bool}{a:Expr}{gb:LS->R D}{p pos:Pos}
end
end VS
namespace VS
def subB:List Bool->List Bool->Bool
 | [],_=>true
 | true::ps,true::ms=>subB ps ms
 | false::ps,_::ms=>subB ps ms
 | _,_=>false
theorem aaU:∀ {ps ms:List Bool},subB ps ms=true->∀ k:Nat,ps[k]?=some true->ms[k]?=some true
 | [],_,_,_,h=>by cases h
 | true::ps,true::ms,_,0,_=>rfl
 | true::ps,true::ms,h,k+1,h2=>aaU (ps:=ps) (ms:=ms) h k h2
 | true::ps,false::ms,h,_,_=>by cases h
 | true::ps,[],h,_,_=>by cases h
 | false::ps,_::ms,_,0,h2=>by cases h2
 | false::ps,_::ms,h,k+1,h2=>aaU (ps:=ps) (ms:=ms) h k h2
 | false::ps,[],h,_,_=>by cases h
end VS
namespace VS
open PySem PySem.Spec PyProof.Rows L2
def PSl (c:Ct)(j:Nat)(e:Expr):Prop:=∃ te:TE,PE c.X e te/\∀ {G F H:Hp} {ow:Addr->Option Path} {σ:L2.St} {L:LS} {v:V},c.Rl G F ow σ H L->σ[j]?=some (some v)->∀ Q:VK,Q v H->te σ H Q
structure ObAt (c:Ct)(i C:Nat)(fl:List (Str×Nat)):Prop where
 ex:∃ a dx vs,c.B a=some (.ins (c.ca C) dx vs)/\c.pb[i]?=some true/\c.v0[i]?=some (.ref a)/\vs.map (·.1)=fl.map (·.1)/\∀ f j,fl.lookup f=some j->∃ v,vs.lookup f=some v/\c.pb[j]?=some true/\c.v0[j]?=some v
section
variable {c:Ct}{n n1 n2:Bool}{a b e e0:Expr}{ga gb:LS->R D}{pos p apos:Pos}{i j k:Nat}{es:List Expr}
theorem aeu {x:Str}(h:PE c.X (.Name x p) (tVar i)):PSl c i (.Name x p):=⟨_,h,λ _ hv Q q=>⟨_,hv,q⟩⟩
end
section
variable {K:W.Frag}{ca:Nat->Addr}{bh:Hp}{pn:List (Option V)}{G F H:Hp}{ow:Addr->Option Path}{σ:L2.St}{L:LS}
end
abbrev Obs:=List (Nat×Nat×List (Str×Nat))
def ObsOk (ca:Nat->Addr)(B:Hp)(obs:Obs)(ws:List V):Prop:=∀ o∈obs,∃ a dx vs,B a=some (.ins (ca o.2.1) dx vs)/\ws[o.1]?=some (.ref a)/\vs.map (·.1)=o.2.2.map (·.1)/\∀ f j,o.2.2.lookup f=some j->∃ v,vs.lookup f=some v/\ws[j]?=some v
def VSg (K:W.Frag)(ca:Nat->Addr)(obs:Obs)(np:Nat)(md:List Bool)(m:LS->R S):Sp:=λ vs H Q E=>vs.length=np/\∃ gv B G F ow ss,(vs++gv).length=md.length/\ss.length=md.length/\ObsOk ca B obs (vs++gv)/\Rl K ca B [] G F ow ((vs++gv).map some) H ss/\match m ss with
 | .ok s L=>∀ v H' F' ow',Same F F'->Rl K ca B [] G F' ow' ((vs++gv).map some) H' L->RS K ca F' H' ow' [0] s v->Q v H'
 | .err e L=>∀ H' F' ow',Same F F'->Rl K ca B [] G F' ow' ((vs++gv).map some) H' L->E (.ref (ca e)) none H'
 | .stuck=>False
def gho (np:Nat)(gv:List V)(σ:L2.St):L2.St:=σ.take np++(gv.map some++σ.drop (np+gv.length))
theorem aj0 {np:Nat}{gv:List V}{σ:L2.St}(h:np+gv.length<=σ.length):(gho np gv σ).length=σ.length:=by
 unfold gho;rw[List.length_append,List.length_append,List.length_take,List.length_map,List.length_drop]
 omega
theorem amo {np:Nat}{gv:List V}{σ:L2.St}{k:Nat}(h:np+gv.length<=σ.length)(hk:k < np∨np+gv.length<=k):(gho np gv σ)[k]?=σ[k]?:=by
 unfold gho;rcases hk with hk | hk
 ·rw[List.getElem?_append_left (by rw[List.length_take];omega),List.getElem?_take,if_pos hk]
 ·rw[List.getElem?_append_right (by rw[List.length_take];omega),List.length_take,List.getElem?_append_right (by rw[List.length_map];omega),List.length_map,List.getElem?_drop]
  congr 1
  omega
theorem Inv.gho {X:Cx}{pins:List (Addr×Obj)}{σ:L2.St}{H:Hp}{s:Shared}{np:Nat}{gv:List V}(I:Inv X pins σ H s)(hl:np+gv.length<=X.N.length)
  (hn:∀ (k:Nat) (x:Str),np<=k->k < np+gv.length->X.N[k]?=some x->X.env.scope.names.lookup x=none):Inv X pins (gho np gv σ) H s:=by
 have hσ:np+gv.length<=σ.length:=by rw[I.len];exact hl
 refine { I with loc:=?_,len:=?_ }
 ·obtain⟨m,h1,h2⟩:=I.loc;refine⟨m,h1,λ i x v hN hv hvis=>?_⟩
  have hk:i < np∨np+gv.length<=i:=by
   by_cases z:i < np
   ·exact .inl z
   ·by_cases z2:np+gv.length<=i
    ·exact .inr z2
    ·have:=hn i x (by omega) (by omega) hN
     unfold Vis at hvis;rw[this]at hvis;rcases hvis with w | w | w<;>cases w
  rw[amo hσ hk]at hv;exact h2 i x v hN hv hvis
 ·rw[aj0 hσ];exact I.len
section
variable {P:Program}{w:World}{K:W.Frag}{mg:Str->Option Value}{base:Heap}{ca:Nat->Addr}
theorem aoo {x qual:Str}{st:Stmt}{f:Addr}{fd:FuncData}{N ps:List Str}{k:Nat}{obs:Obs}{md:List Bool}{g:LS->R O}(F:Fun K x qual st f fd)(S:FnScope N ps (defScope st))(hmd:ps.length<=md.length)(hN:md.length<=N.length)
  (hgh:∀ (k:Nat) (x:Str),ps.length<=k->k < md.length->N[k]?=some x->(defScope st).names.lookup x=none)
  (hb:∀ (cdv:Value) (A:Around) (outer:List Env) (s:Shared) (H:Hp) (E:XK) (ws:List V),Room k (A.deeper (envOfC qual (defScope st) s.heap.objs.size f cdv))->∀ B:Hp,ws.length=md.length->ObsOk ca B obs ws->JB (ctOf P w K mg base ca N qual (defScope st) f cdv A outer s H E md ws B) (defBody st) g) :
  FnOk P w K mg base (L2.CX P w) (k+1) f fd ps (VSg K ca obs ps.length md (runDef md N.length g)):=by
 refine F.okX S (λ vs H Q E h=>h.1) (λ cdv A outer s H vs Q E hr h=>?_);obtain⟨hvl,gv,B,G,F0,ow,ss,hwl,h1,hob,h2,h3⟩:=h;obtain⟨ws,hws⟩:∃ ws,ws=vs++gv:=⟨_,rfl⟩;rw[←hws]at hwl hob h2 h3
 have hgl:vs.length+gv.length=md.length:=by rw[←hwl,hws,List.length_append]
 obtain⟨t,ht,hq⟩:=hb cdv A outer s H E ws hr B hwl hob
 have hNl:ps.length+gv.length<=N.length:=by omega
 refine⟨λ E' σ H'=>t E' (gho ps.length gv σ) H',⟨λ pins s' σ H' D I hh=>ht.run pins s' _ H' D (Inv.gho I hNl λ k x a b c=>hgh k x a (by omega) c) hh⟩,?_⟩
 have hst:gho ps.length gv (L2.start N vs)=ws.map some++List.replicate (N.length - ws.length) none:=by
  unfold gho L2.start;rw[←hvl];rw[List.take_append_of_le_length (by rw[List.length_map];exact Nat.le_refl _),List.take_of_length_le (by rw[List.length_map];exact Nat.le_refl _)];rw[List.drop_append,List.length_map,List.drop_eq_nil_of_le (by rw[List.length_map];omega),List.nil_append,List.drop_replicate,hws,List.map_append,List.append_assoc,List.length_append]
  congr 3
  omega
 have hlv:ss.length=ws.length:=by
  have:=h2.len
  rw[List.length_map]at this;exact this
 have pinv:∀ (i:Nat) (v:V),(pinOf md ws)[i]?=some (some v)->(ws.map some)[i]?=some (some v):=λ i v h=>by
  rw[List.getElem?_map,(lO h).2]
  rfl
 have R0:Rl K ca B (pinOf md ws) G F0 ow (gho ps.length gv (L2.start N vs)) H (ss++List.replicate (N.length - ss.length) none):=by
  rw[hst];refine⟨h2.exF,h2.exG,h2.dF,h2.dG,?_,λ i s0 hi=>?_,λ i v hi=>?_,h2.exB,h2.dB⟩
  ·rw[List.length_append,List.length_append,List.length_replicate,List.length_replicate,List.length_map,hlv]
  ·have hlt:i < ss.length:=by
    by_cases z:i < ss.length
    ·exact z
    ·rw[List.getElem?_append_right (Nat.le_of_not_lt z),List.getElem?_replicate]at hi
     split at hi<;>cases hi
   rw[List.getElem?_append_left hlt]at hi;obtain⟨v,q1,q2⟩:=h2.sl i s0 hi;refine⟨v,?_,q2⟩;rw[List.getElem?_append_left (by rw[List.length_map];omega)];exact q1
  ·have q:=pinv i v hi
   rw[List.getElem?_append_left (List.getElem?_eq_some_iff.mp q).1];exact q
 have back:∀ {σ':L2.St} {H' F':Hp} {ow':Addr->Option Path} {L:LS},Rl K ca B (pinOf md ws) G F' ow' σ' H' L->Rl K ca B [] G F' ow' (ws.map some) H' (maskL md L):=λ {σ' H' F' ow' L} r=>by
  refine⟨r.exF,r.exG,r.dF,r.dG,?_,λ i s0 hi=>?_,(λ i v hi=>nomatch hi),r.exB,r.dB⟩
  ·rw[rE,List.length_map,hwl]
  ·obtain⟨m1,m2⟩:=rD hi;obtain⟨v,q1,q2⟩:=r.sl i s0 m2
   have hlt:i < ws.length:=by
    have:=(List.getElem?_eq_some_iff.mp m1).1
    omega
   have hpin:=r.pin i ws[i] (km m1 (List.getElem?_eq_getElem hlt))
   rw[hpin]at q1
   cases q1
   exact⟨_,by rw[List.getElem?_map,List.getElem?_eq_getElem hlt];rfl,q2⟩
 refine hq G F0 ow _ H _ R0 _ ?_;unfold runDef at h3
 cases hr:g (ss++List.replicate (N.length - ss.length) none) with
 | stuck=>rw[hr]at h3;exact h3
 | err e L =>
  rw[hr]at h3;exact λ σ' H' F' ow' e' R'=>h3 H' F' ow' e' (back R')
 | ok o L =>
  rw[hr]at h3
  cases o with
  | nx=>exact λ σ' H' F' ow' e' R'=>h3 .non H' F' ow' e' (back R') (.d .non)
  | rt s0=>exact λ v σ' H' F' ow' e' R' rs=>h3 v H' F' ow' e' (back R') rs
  | bk=>exact h3.elim
  | ct=>exact h3.elim
end
inductive Ag where
 | d (g:LS->R D)
 | r (i:Nat)
 | o (i:Nat)
def j8:List Ag->LS->R (List Av)
 | [],L=>.ok [] L
 | .d g::as,L=>(g L).bind λ d L1=>(j8 as L1).bind λ xs L2=>.ok (.d d::xs) L2
 | .r i::as,L=>match L[i]? with
  | some (some _)=>(j8 as L).bind λ xs L2=>.ok (.r i::xs) L2
  | _=>.stuck
 | .o i::as,L=>(j8 as L).bind λ xs L2=>.ok (.r i::xs) L2
def AgOk (as:List Ag)(xs:List Av):Prop:=xs.length=as.length/\∀ (j i:Nat),as[j]?=some (.o i)->xs[j]?=some (.r i)
def JAg (c:Ct)(es:List Expr)(as:List Ag):Prop:=∃ t,PA c.X es t/\∀ G F ow σ H L,c.Rl G F ow σ H L->Post c G false F H σ (j8 as L) (λ F' _ _ xs vs=>AvOk c.X.K σ F' xs vs/\AgOk as xs) (t σ H)
section
variable {c:Ct}{n n1 n2 n3:Bool}{a b:Expr}{ga gb:LS->R D}{pos:Pos}{es:List Expr}{as:List Ag}
theorem ahr:AgOk [] []:=⟨rfl,λ j i h=>by cases h⟩
theorem aev {a:Ag}{x:Av}{xs:List Av}(h:∀ i,a=.o i->x=.r i)(t:AgOk as xs):AgOk (a::as) (x::xs):=⟨congrArg (·+1) t.1,λ j i e=>by
 cases j with
 | zero=>cases e;exact congrArg some (h i rfl)
 | succ j=>exact t.2 j i e⟩
theorem aj1:JAg c [] []:=⟨_,pa_nil,λ G F ow σ H L Rr=>Post.val Rr ⟨.nil,ahr⟩⟩
theorem aop (h1:JD c n1 a ga)(h2:JAg c es as)(hs:starEach (a::es) c.X.env=(false,eval a c.X.env)::starEach es c.X.env:=by rfl):JAg c (a::es) (.d ga::as):=by
 obtain⟨t1,p1,q1⟩:=h1;obtain⟨t2,p2,q2⟩:=h2;refine⟨_,pa_cons p1 p2 hs,λ G F ow σ H L Rr=>?_⟩
 have key:=(q1 G F ow σ H L Rr).bind (n2:=false) (k:=λ d L1=>(j8 as L1).bind λ xs L2=>.ok (.d d::xs) L2) (B2:=λ F' _ _ xs vs=>AvOk c.X.K σ F' xs vs/\AgOk (.d ga::as) xs) (t2:=λ v H1 Q=>t2 σ H1 λ vs H2=>Q (v::vs) H2) λ d L1 v H1 F1 ow1 _ _ _ R1 b1=>?_
 ·rw[Bool.and_false]at key;exact key
 ·exact(q2 G F1 ow1 σ H1 L1 R1).bind1 (t2:=λ vs H2 Q=>Q (v::vs) H2) λ xs L2 vs H2 F2 ow2 _ e2 _ R2 b2=>Post.val R2 ⟨.cons (Dq.up e2 b1) b2.1,aev (λ i h=>by cases h) b2.2⟩
def gCallG (m:LS->R S)(as:List Ag)(gs:List Nat):LS->R S:=λ L=>(j8 as L).bind λ xs L1=>if(refs (xs++gs.map Av.r)).Nodup then callAt m (xs++gs.map Av.r) L1 else .stuck
def ObsArg (c:Ct)(as:List Ag)(gs:List Nat)(obs:Obs):Prop:=(∀ o∈obs,∃ i fl,as[o.1]?=some (.o i)/\ObAt c i o.2.1 fl/\fl.map (·.1)=o.2.2.map (·.1)/\∀ f j,o.2.2.lookup f=some j->∃ q,fl.lookup f=some q/\as.length<=j/\gs[j - as.length]?=some q)/\∀ q∈gs,∃ v,c.pb[q]?=some true/\c.v0[q]?=some v
theorem aew {gs:List Nat}(h:∀ q∈gs,∃ v,c.pb[q]?=some true/\c.v0[q]?=some v):∃ gv:List V,Paired (λ q v=>c.pb[q]?=some true/\c.v0[q]?=some v) gs gv:=by
 induction gs with
 | nil=>exact⟨[],.nil⟩
 | cons q gs ih =>
  obtain⟨v,hv⟩:=h q List.mem_cons_self;obtain⟨gv,hg⟩:=ih λ q hq=>h q (List.mem_cons_of_mem _ hq);exact⟨v::gv,.cons hv hg⟩
theorem abV {K:W.Frag}{σ:L2.St}{F:Hp}:∀ {xs ys:List Av} {vs ws:List V},AvOk K σ F xs vs->AvOk K σ F ys ws->AvOk K σ F (xs++ys) (vs++ws)
 | _,_,_,_,.nil,h=>h
 | _,_,_,_,.cons a t,h=>.cons a (abV t h)
theorem zN {G F H:Hp}{ow:Addr->Option Path}{σ:L2.St}{L:LS}(Rr:c.Rl G F ow σ H L):∀ {gs:List Nat} {gv:List V},Paired (λ q v=>c.pb[q]?=some true/\c.v0[q]?=some v) gs gv->AvOk c.X.K σ F (gs.map Av.r) gv
 | _,_,.nil=>.nil
 | _,_,.cons h t=>.cons (Rr.pin _ _ (km h.1 h.2)) (zN Rr t)
theorem vg {α β:Type}{P:α->β->Prop}:∀ {l:List α} {m:List β} {i:Nat} {x:α},Paired P l m->l[i]?=some x->∃ y,m[i]?=some y/\P x y
 | _,_,0,_,.cons h _,e=>by cases e;exact⟨_,rfl,h⟩
 | _::l,_::m,i+1,x,.cons _ t,e=>vg (l:=l) (m:=m) (i:=i) t e
theorem acH {obs:Obs}{md:List Bool}{m:LS->R S}{gs:List Nat}{G F1 H1:Hp}{ow1:Addr->Option Path}{σ:L2.St}{L1:LS}{xs:List Av}{vs:List V}(ho:ObsArg c as gs obs)(hl:as.length+gs.length=md.length)(R1:c.Rl G F1 ow1 σ H1 L1)(av:AvOk c.X.K σ F1 xs vs)(ag:AgOk as xs) :
  Post c G false F1 H1 σ (if(refs (xs++gs.map Av.r)).Nodup then callAt m (xs++gs.map Av.r) L1 else .stuck) (BE c.ca c.X.K) (λ Q=>VSg c.X.K c.ca obs as.length md m vs H1 Q (WE c.W σ)):=by
 refine Post.guard λ nd=>?_;obtain⟨gv,hgv⟩:=aew ho.2
 have hvl:vs.length=as.length:=by rw[←ag.1];exact(Paired.length av).symm
 have hgl:gv.length=gs.length:=(Paired.length hgv).symm
 have av2:=abV av (zN R1 hgv)
 have rin:=R1.callIn av2 nd
 have hob:ObsOk c.ca c.B obs (vs++gv):=λ o hm=>by
  obtain⟨i,fl,h1,h2,h3,h4⟩:=ho.1 o hm;obtain⟨a,dx,us,o1,o2,o3,o5,o4⟩:=h2.ex
  have hx:=ag.2 _ _ h1
  obtain⟨v,hv,hσ⟩:=AvOk.get (x:=.r i) av hx
  have e1:=R1.pin i _ (km o2 o3)
  have hσ:σ[i]?=some (some v):=hσ
  rw[e1]at hσ
  cases hσ
  refine⟨a,dx,us,o1,?_,o5.trans h3,λ f j hf=>?_⟩
  ·rw[List.getElem?_append_left (List.getElem?_eq_some_iff.mp hv).1];exact hv
  ·obtain⟨q,q1,q2,q3⟩:=h4 f j hf;obtain⟨v,f1,f2,f3⟩:=o4 f q q1;refine⟨v,f1,?_⟩;obtain⟨y,y1,y2,y3⟩:=vg hgv q3;rw[f3]at y3
   cases y3
   rw[List.getElem?_append_right (by omega),hvl];exact y1
 have hln:(vs++gv).length=md.length:=by rw[List.length_append];omega
 have hls:((xs++gs.map Av.r).map (slotOf L1)).length=md.length:=by
  rw[List.length_map,List.length_append,List.length_map,ag.1];exact hl
 unfold callAt
 cases hm':m ((xs++gs.map Av.r).map (slotOf L1)) with
 | stuck=>trivial
 | ok s ss =>
  intro Q q;refine⟨hvl,gv,c.B,_,F1,_,_,hln,hls,hob,rin,?_⟩;rw[hm'];intro v H' F' ow' e' r' rs;obtain⟨w1,w2,w3⟩:=R1.callOut av2 nd e' r';exact q v H' F' _ e' (λ h=>by cases h) w1 (w3 rs)
 | err er ss =>
  intro hw Q;refine⟨hvl,gv,c.B,_,F1,_,_,hln,hls,hob,rin,?_⟩;rw[hm'];intro H' F' ow' e' r';obtain⟨w1,w2,w3⟩:=R1.callOut av2 nd e' r';exact hw H' F' _ e' w1
theorem ahs {k:Nat}{f:Addr}{fd:FuncData}{ps:List Str}{obs:Obs}{md:List Bool}{m:LS->R S}{x:Str}{p:Pos}{e:Expr}{gs:List Nat}(F:FnOk c.X.prog c.X.w c.X.K c.X.mg c.X.base (L2.CX c.X.prog c.X.w) k f fd ps (VSg c.X.K c.ca obs as.length md m))(hr:Room k c.X.A)(tk:Takes c.X c.W)
  (hg:Gl c.X x) (hm:c.X.mg x=some (.ref f)) (hk:W.keepIn c.X.K (.ref f)=true) (hb:Binds c.X.K fd ps []) (ha:JAg c (e::es) as) (ho:ObsArg c as gs obs) (hl:as.length+gs.length=md.length:=by rfl)
  (hdb:(x == ("__debug__":Str))=false:=by decide) (he:starEach (e::es) c.X.env=(false,eval e c.X.env)::starEach es c.X.env:=by rfl) (hpl:(backTo pos (starEach es c.X.env)).any (·.1)=false:=by rfl) :
  JE c false (.Call (.Name x p) (e::es) [] pos) (gCallG m as gs):=by
 obtain⟨t,pa,qa⟩:=ha;refine⟨_,pe_callS F hr hg hm hk hb (λ σ=>passAt tk σ) pa hdb he hpl,λ G F0 ow σ H L Rr=>?_⟩
 have key:=(qa G F0 ow σ H L Rr).bind (n2:=false) (B2:=BE c.ca c.X.K) (k:=λ xs L1=>if(refs (xs++gs.map Av.r)).Nodup then callAt m (xs++gs.map Av.r) L1 else .stuck) (t2:=λ vs H1 Q=>VSg c.X.K c.ca obs as.length md m vs H1 Q (WE c.W σ)) λ xs L1 vs H1 F1 ow1 hev e1 _ R1 b1=>acH ho hl R1 b1.1 b1.2
 exact key
section
variable {X:Cx}{CX:CXT}{k:Nat}{f C:Addr}{fd:FuncData}{ps:List Str}{sp:Sp}{E:L2.St->XK}{m:Str}{pos apos:Pos}{e o:Expr}{es:List Expr}{ta:TE}{t:TA}
end
end
section
variable {K:W.Frag}{ca:Nat->Addr}{bh:Hp}{pn:List (Option V)}{G F F' H H':Hp}{ow ow':Addr->Option Path}{σ:L2.St}{L:LS}
theorem RF.go (e:Same F F'):∀ {fs:List (Str×S)} {p p':Path} {i:Nat} {vs:List (Str×V)},(∀ j,Keeps H H' ow ow' (p++[j]) (p'++[j]))->RF K ca F H ow p i fs vs->RF K ca F' H' ow' p' i fs vs
 | [],p,p',i,vs,k,h=>by cases h;exact .nil
 | (x,s)::fs,p,p',i,vs,k,h=>by
  cases h with
  | cons a b=>exact .cons (a.go e (k i)) (RF.go e k b)
theorem RF.len:∀ {fs:List (Str×S)} {p:Path} {i:Nat} {vs:List (Str×V)},RF K ca F H ow p i fs vs->vs.map (·.1)=fs.map (·.1)
 | [],p,i,vs,h=>by cases h;rfl
 | (x,s)::fs,p,i,vs,h=>by
  cases h with
  | cons a b=>rw[List.map_cons,List.map_cons,RF.len b]
theorem RF.at_:∀ {fs:List (Str×S)} {p:Path} {i:Nat} {vs:List (Str×V)} {m:Nat} {f:Str} {s:S},RF K ca F H ow p i fs vs->fs[m]?=some (f,s)->∃ v,vs[m]?=some (f,v)/\RS K ca F H ow (p++[i+m]) s v
 | [],p,i,vs,m,f,s,h,e=>by cases e
 | (x,y)::fs,p,i,vs,0,f,s,h,e=>by
  cases h with
  | cons a b =>
   cases e
   exact⟨_,rfl,a⟩
 | (x,y)::fs,p,i,vs,m+1,f,s,h,e=>by
  cases h with
  | cons a b =>
   obtain⟨v,h1,h2⟩:=RF.at_ (m:=m) b e;refine⟨v,h1,?_⟩;rw[show i+(m+1)=i+1+m by omega];exact h2
end
def putS (f:Str)(s:S):List (Str×S)->List (Str×S)
 | []=>[(f,s)]
 | (g,x)::r=>if g=f then(g,s)::r else(g,x)::putS f s r
def idxS (f:Str):List (Str×S)->Nat
 | []=>0
 | (g,_)::r=>if g=f then 0 else idxS f r+1
theorem RF.put {K:W.Frag}{ca:Nat->Addr}{F H:Hp}{ow:Addr->Option Path}{f:Str}{s:S}{v:V}:∀ {fs:List (Str×S)} {p:Path} {i:Nat} {vs:List (Str×V)},RF K ca F H ow p i fs vs->RS K ca F H ow (p++[i+idxS f fs]) s v->RF K ca F H ow p i (putS f s fs) (L2.putF f v vs)
 | [],p,i,vs,h,r=>by
  cases h
  exact .cons r .nil
 | (g,x)::fs,p,i,vs,h,r=>by
  cases h with
  | @cons _ _ _ _ u _ us a b =>
   unfold idxS at r
   show RF K ca F H ow p i (if g=f then(g,s)::fs else(g,x)::putS f s fs) (if g=f then(g,v)::us else(g,u)::L2.putF f v us)
   by_cases hg:g=f
   ·rw[if_pos hg]at r
    rw[if_pos hg,if_pos hg]
    exact .cons r b
   ·rw[if_neg hg]at r
    rw[if_neg hg,if_neg hg]
    refine .cons a (RF.put b ?_)
    rw[show i+1+idxS f fs=i+(idxS f fs+1) by omega]
    exact r
theorem aoq {md:List Bool}{ws:List V}(h:ws.length=md.length):∀ k:Nat,md[k]?=some true->k < ws.length:=λ k hk=>by
 rw[h];exact(List.getElem?_eq_some_iff.mp hk).1
def ghOk (N:List Str)(sc:Scope)(js:List Nat):Bool:=js.all λ j=>match N[j]? with
 | some x=>(sc.names.lookup x).isNone
 | none=>true
theorem aj2 {N:List Str}{sc:Scope}{js:List Nat}(h:ghOk N sc js=true):∀ j∈js,∀ x,N[j]?=some x->sc.names.lookup x=none:=λ j hj x hx=>by
 have:=List.all_eq_true.mp h j hj
 rw[hx]at this;exact Option.isNone_iff_eq_none.mp this
theorem amq {N:List Str}{sc:Scope}{np n:Nat}(h:ghOk N sc (List.range' np (n - np))=true):∀ (k:Nat) (x:Str),np<=k->k < n->N[k]?=some x->sc.names.lookup x=none:=λ k x h1 h2 h3=>aj2 h k (by rw[List.mem_range'];exact⟨k - np,by omega,by omega⟩) x h3
structure DxG (P:Program)(w:World)(K:W.Frag)(mg:Str->Option Value)(base:Heap)(ca:Nat->Addr)(x:Str)(k:Nat)(ps:List Str)(obs:Obs)(md:List Bool)(m:LS->R S):Prop where
 ex:∃ f fd,FnOk P w K mg base (L2.CX P w) k f fd ps (VSg K ca obs ps.length md m)/\mg x=some (.ref f)/\W.keepIn K (.ref f)=true/\Binds K fd ps []
section
variable {c:Ct}{n:Bool}{as:List Ag}{gs:List Nat}{obs:Obs}{md:List Bool}{m:LS->R S}{ps:List Str}{x:Str}{k j:Nat}{p pos apos:Pos}{e o:Expr}{es:List Expr}
theorem amr (D:DxG c.X.prog c.X.w c.X.K c.X.mg c.X.base c.ca x k ps obs md m)(hr:Room j c.X.A)(hk:k<=j)(tk:Takes c.X c.W)(hg:Gl c.X x)(ha:JAg c (e::es) as)(ho:ObsArg c as gs obs)(hl:as.length+gs.length=md.length:=by rfl)(hps:ps.length=as.length:=by rfl)
  (hdb:(x == ("__debug__":Str))=false:=by decide) (he:starEach (e::es) c.X.env=(false,eval e c.X.env)::starEach es c.X.env:=by rfl) (hpl:(backTo pos (starEach es c.X.env)).any (·.1)=false:=by rfl) :
  JE c false (.Call (.Name x p) (e::es) [] pos) (gCallG m as gs):=by
 obtain⟨f,fd,h1,h2,h3,h4⟩:=D.ex;rw[hps]at h1;exact ahs h1 (hr.mono hk) tk hg h2 h3 h4 ha ho hl hdb he hpl
end
end VS
namespace VS
theorem acI {c:Ct}{as:List Ag}:ObsArg c as [] []:=⟨λ o h=>(by cases h),λ q h=>(by cases h)⟩
end VS
namespace VS
open PySem PySem.Spec PyProof.Rows L2
section
variable {c:Ct}{n:Bool}{a e0:Expr}{ga:LS->R D}{pos p:Pos}{i k:Nat}
end
end VS
namespace VS
open PySem PySem.Spec PyProof.Rows L2
section
variable {c:Ct}{n:Bool}{a b d:Expr}{gs:LS->R (List D)}{pos p:Pos}
end
section
variable {K:W.Frag}{ca:Nat->Addr}{bh:Hp}{pn:List (Option V)}{G F H:Hp}{ow:Addr->Option Path}{σ:L2.St}{L:LS}
end
def S.one:S->Bool
 | .ol _=>true
 | .odK _=>true
 | .odT _=>true
 | _=>false
section
variable {c:Ct}{n n1 n2:Bool}{a b e:Expr}{es:List Expr}{ga gb:LS->R D}{gs:LS->R (List D)}{pos p p2:Pos}
end
end VS
namespace L2
open PySem PySem.W PySem.Spec PyProof.Rows
section
variable {X:Cx}{pins:List (Addr×Obj)}{σ:St}{H:Hp}{s:Shared}{d:Addr}{o:Obj}
end
section
variable {P:Program}{w:World}{K:W.Frag}{d:Addr}{o:Obj}{es:Array DictEntry}{ep:Nat}
end
section
variable {X:Cx}{e:Expr}{td:TE}{apos cpos:Pos}
end
end L2
namespace VS
open PySem PySem.Spec PyProof.Rows L2
section
variable {c:Ct}{n:Bool}{a:Expr}{ge ga:LS->R S}{gb:LS->R D}{p pos cpos apos tpos:Pos}{k:Nat}{elts:List Expr}{kk:Nat}
end
open Classical in
def itemOk (d:D):Bool:=scal d||(keysD d).isSome
section
variable {c:Ct}{n n1 n2 n3:Bool}{a b:Expr}{ga gb:LS->R D}{gs:LS->R (List D)}{ge:LS->R S}{pos:Pos}{es:List Expr}
end
end VS
namespace VS
open PySem PySem.Spec PyProof.Rows L2
abbrev bmV:List Value:=[Value.type "ValueError",Value.type "Exception",Value.type "BaseException",Value.type "object"]
structure ExcR (K:W.Frag)(mg:Str->Option Value)(C:Addr)(x:Str):Prop where
 g:mg x=some (.ref C)
 k:W.keepIn K (.ref C)=true
 q:W.excIn K C bmV "ValueError.__new__"=true
 s:W.subIn K (.ref C) (.type "BaseException")=some true
 t:W.typeIn K (.ref C)=some (.type "type")
section
variable {c:Ct}
theorem mH {k:Nat}{x m:Str}{j:Nat}{p p2 pos pos':Pos}(hc:c.X.calm=true)(tk:Takes c.X c.W)(R:ExcR c.X.K c.X.mg (c.ca k) x)(hg:Gl c.X x)(hdb:(x == ("__debug__":Str))=false:=by decide) :
  JS c (.Raise (some (.Call (.Name x p) [.Constant (.str m) j p2] [] pos)) none pos') (gRaise k) :=
 agk hc tk (pmk_own PySem.F.excBase_ValueError R.q R.g R.k (raises_own R.s R.t) hg hdb)
abbrev trC (c:Ct)(W:WX)(pn:List (Addr×Obj))(xe:Value->Shared->Prop):Ct:={ c with X:=c.X.tr pn xe,W:=W }
abbrev suC (c:Ct)(a:Addr)(oe:Obj)(pn:List (Addr×Obj))(ms:List Bool)(ws:List V):Ct:={ c with X:=c.X.suite a ((a,oe)::pn),pb:=ms,v0:=ws }
structure SuOk (c:Ct)(i k:Nat)(a:Addr)(oe:Obj)(ms:List Bool)(ws:List V):Prop where
 z:Zc (.ref (c.ca k)) none oe
 f:∃ vs,oe.data=.fields vs
 m:ms[i]?=some true
 w:ws[i]?=some (.ref a)
def gTry (i:Nat)(ks:List Nat)(gb:LS->R O)(gs:Nat->LS->R O):LS->R O:=λ L=>match gb L with
 | .err k L1=>if k∈ks/\i < L1.length then(match gs k (L1.set i none) with
  | .ok o L2=>.ok o (L2.set i none)
  | r=>.stuck) else .stuck
 | r=>r
theorem ams {i:Nat}{x y:Str}{M:Addr}{ks:List Nat}{body suite:List Stmt}{b0:Stmt}{np pos pos':Pos}{gb:LS->R O}{gs:Nat->LS->R O}(ms:List Bool)
  (hs:c.X.stack=c.X.env::c.X.outer) (hf:c.X.env.frame=some c.X.env.locals) (hN:c.X.N.Nodup) (hi:c.X.N[i]?=some y) (hln:c.X.env.kindOf y=some .local) (tk:Takes c.X c.W)
  (hg:Gl c.X x) (hx:c.X.mg x=some (.ref M)) (hcat:∀ k∈ks,PySem.W.exmOne c.X.K (.ref (c.ca k)) (.ref M)=some true)
  (hv0:∀ k:Nat,c.pb[k]?=some true->k < c.v0.length) (hsub:∀ k:Nat,c.pb[k]?=some true->ms[k]?=some true) (hms:∀ k:Nat,ms[k]?=some true->k=i∨c.pb[k]?=some true) (hin:ms[i]?=some true) (hold:c.pb[i]?≠some true)
  (hb:∀ (W:WX) (pn:List (Addr×Obj)) (xe:Value->Shared->Prop),Takes (c.X.tr pn xe) W->PassesOwn (model c.X.prog c.X.w) c.X.A c.X.env xe->JB (trC c W pn xe) body gb)
  (hsu:∀ (k:Nat),k∈ks->∀ (a:Addr) (oe:Obj) (pn:List (Addr×Obj)) (ws:List V),(∀ j:Nat,ms[j]?=some true->j < ws.length)->SuOk c i k a oe ms ws->JB (suC c a oe pn ms ws) (b0::suite) (gs k))
  (hdb:(x == ("__debug__":Str))=false:=by decide) :
  JS c (.Try body [.ExceptHandler (some (.Name x np)) (some y) (b0::suite) pos'] [] [] pos) (gTry i ks gb gs):=by
 refine⟨_,ps_try_as (tb:=λ W D σ H=>∀ (pn:List (Addr×Obj)) (xe:Value->Shared->Prop) (t:Takes (c.X.tr pn xe) W) (p:PassesOwn (model c.X.prog c.X.w) c.X.A c.X.env xe),Classical.choose (hb W pn xe t p) D σ H)
  (ts:=λ a cls d D σ H=>∃ (k:Nat) (hk:k∈ks) (ws:List V) (hw:∀ j:Nat,ms[j]?=some true->j < ws.length) (hwi:ws[i]?=some (.ref a)) (hcl:cls=.ref (c.ca k)) (hd:d=none),∀ (oe:Obj) (pn:List (Addr×Obj)) (hz:Zc cls d oe) (hff:∃ vs,oe.data=.fields vs),
   Classical.choose (hsu k hk a oe pn ws hw ⟨by rw[←hcl,←hd];exact hz,hff,hin,hwi⟩) D σ H)
  hs hf hN hi hln ⟨hg,hdb,.inl hx⟩ tk (λ W pn xe t p=>⟨λ pins s σ H D I h=>?_⟩) (λ a oe cls d pn hz hff=>⟨λ pins s σ H D I h=>?_⟩),λ G F ow σ H L Rr E ft=>?_⟩
 ·exact(Classical.choose_spec (hb W pn xe t p)).1.run pins s σ H D I (h pn xe t p)
 ·obtain⟨k,hk,ws,hw,hwi,hcl,hd,h⟩:=h;exact(Classical.choose_spec (hsu k hk a oe pn ws hw ⟨by rw[←hcl,←hd];exact hz,hff,hin,hwi⟩)).1.run pins s σ H D I (h oe pn hz hff)
 ·intro pn xe t p;refine(Classical.choose_spec (hb _ pn xe t p)).2 G F ow σ H L Rr E ?_
  have ft:Fit c G F (gTry i ks gb gs L) E:=ft
  unfold gTry at ft
  cases hgb:gb L with
  | stuck=>rw[hgb]at ft;exact ft.elim
  | ok o L1 =>
   rw[hgb]at ft
   cases o<;>exact ft
  | err k L1 =>
   rw[hgb]at ft
   have ft:Fit c G F (if k∈ks/\i < L1.length then(match gs k (L1.set i none) with
    | .ok o L2=>.ok o (L2.set i none)
    | r=>.stuck) else .stuck) E:=ft
   by_cases hk:k∈ks/\i < L1.length
   ·rw[if_pos hk]at ft;obtain⟨hk,hil⟩:=hk;intro σ1 H1 F1 ow1 e1 R1
    have R1:c.Rl G F1 ow1 σ1 H1 L1:=R1
    have hlen1:L1.length=σ1.length:=R1.len
    refine⟨true,hcat k hk,λ _ a ha=>?_,λ z=>by cases z⟩;obtain⟨ws,hws⟩:∃ ws:List V,ws=(σ1.set i (some (.ref a))).map λ o=>o.getD .non:=⟨_,rfl⟩
    have σi:(σ1.set i (some (V.ref a)))[i]?=some (some (.ref a)):=List.getElem?_set_self (by rw[←hlen1];exact hil)
    have σo:∀ j,j≠i->(σ1.set i (some (V.ref a)))[j]?=σ1[j]?:=λ j h=>List.getElem?_set_ne (λ z=>h z.symm)
    have old:∀ (j:Nat),c.pb[j]?=some true->∃ v,c.v0[j]?=some v/\σ1[j]?=some (some v):=λ j hj=>by
     have hlt:=hv0 j hj
     exact⟨c.v0[j],List.getElem?_eq_getElem hlt,R1.pin j _ (km hj (List.getElem?_eq_getElem hlt))⟩
    have some2:∀ j:Nat,ms[j]?=some true->∃ v,(σ1.set i (some (V.ref a)))[j]?=some (some v)/\ws[j]?=some v:=λ j hj=>by
     have h2:∃ v,(σ1.set i (some (V.ref a)))[j]?=some (some v):=by
      by_cases hji:j=i
      ·subst hji
       exact⟨_,σi⟩
      ·obtain⟨v,_,h⟩:=old j ((hms j hj).resolve_left hji);exact⟨v,by rw[σo j hji];exact h⟩
     obtain⟨v,hv⟩:=h2;exact⟨v,hv,by rw[hws,List.getElem?_map,hv];rfl⟩
    have hwl:∀ j:Nat,ms[j]?=some true->j < ws.length:=λ j hj=>by
     obtain⟨u,_,q2⟩:=some2 j hj;exact(List.getElem?_eq_some_iff.mp q2).1
    have hwi:ws[i]?=some (.ref a):=by
     obtain⟨u,q1,q2⟩:=some2 i hin;rw[σi]at q1
     cases q1
     exact q2
    refine⟨k,hk,ws,hwl,hwi,rfl,rfl,λ oe pn hz hff=>?_⟩
    have R2:(suC c a oe pn ms ws).Rl G F1 ow1 (σ1.set i (some (.ref a))) H1 (L1.set i none):=by
     refine⟨R1.exF,R1.exG,R1.dF,R1.dG,by rw[List.length_set,List.length_set];exact R1.len,λ j s h=>?_,λ j u h=>?_,R1.exB,R1.dB⟩
     ·rcases jJ h with ⟨_,h3⟩ | ⟨h3,h4⟩
      ·cases h3
      ·obtain⟨u,q1,q2⟩:=R1.sl j s h4;exact⟨u,by rw[σo j (λ z=>h3 z.symm)];exact q1,q2⟩
     ·obtain⟨m1,m2⟩:=lO h;obtain⟨u2,q3,q4⟩:=some2 j m1
      have m2:ws[j]?=some u:=m2
      rw[m2]at q4
      cases q4
      exact q3
    have low:∀ {F' H':Hp} {ow':Addr->Option Path} {σ':L2.St} {L':LS},(suC c a oe pn ms ws).Rl G F' ow' σ' H' L'->c.Rl G F' ow' (σ'.set i none) H' (L'.set i none):=λ {F' H' ow' σ' L'} r=>by
     refine⟨r.exF,r.exG,r.dF,r.dG,by rw[List.length_set,List.length_set];exact r.len,λ j s h=>?_,λ j u h=>?_,r.exB,r.dB⟩
     ·rcases jJ h with ⟨_,h3⟩ | ⟨h3,h4⟩
      ·cases h3
      ·obtain⟨u,q1,q2⟩:=r.sl j s h4;exact⟨u,by rw[List.getElem?_set_ne h3];exact q1,q2⟩
     ·obtain⟨m1,m2⟩:=lO h
      have hji:j≠i:=λ z=>hold (z ▸ m1)
      obtain⟨v,q1,q2⟩:=old j m1;rw[m2]at q1
      cases q1
      obtain⟨u2,q3,q4⟩:=some2 j (hsub j m1);rw[σo j hji,q2]at q3
      cases q3
      rw[List.getElem?_set_ne (λ z=>hji z.symm)];exact r.pin j u (km (hsub j m1) q4)
    refine(Classical.choose_spec (hsu k hk a oe pn ws hwl ⟨hz,hff,hin,hwi⟩)).2 G F1 ow1 _ H1 _ R2 _ ?_
    cases hgs:gs k (L1.set i none) with
    | stuck=>rw[hgs]at ft;exact ft.elim
    | err k2 L4=>rw[hgs]at ft;exact ft.elim
    | ok o L4 =>
     rw[hgs]at ft
     cases o with
     | nx=>exact λ σ' H' F' ow' e' R'=>ft _ H' F' ow' (e1.trans e') (low R')
     | bk=>exact λ σ' H' F' ow' e' R'=>ft _ H' F' ow' (e1.trans e') (low R')
     | ct=>exact λ σ' H' F' ow' e' R'=>ft _ H' F' ow' (e1.trans e') (low R')
     | rt s=>exact λ w σ' H' F' ow' e' R' rs=>ft w _ H' F' ow' (e1.trans e') (low R') rs
   ·rw[if_neg hk]at ft;exact ft.elim
def oneB (i:Nat)(ps ms:List Bool):Bool:=(List.range ms.length).all λ k=>(ms[k]? != some true)||(k == i||ps[k]? == some true)
theorem aj3 {i:Nat}{ps ms:List Bool}(h:oneB i ps ms=true):∀ k:Nat,ms[k]?=some true->k=i∨ps[k]?=some true:=λ k hk=>by
 unfold oneB at h
 have hlt:=(List.getElem?_eq_some_iff.mp hk).1
 have:=List.all_eq_true.mp h k (List.mem_range.mpr hlt)
 rw[hk]at this
 simpa using this
theorem amt {i k:Nat}{a:Addr}{oe:Obj}{pn:List (Addr×Obj)}{ms:List Bool}{ws:List V}{y x:Str}{C:Addr}{b:Bool}{p p2 p3 pos:Pos}(S:SuOk c i k a oe ms ws)(hE:ExcC c.X.K (c.ca k))(hg:Gl c.X "isinstance") (hm:c.X.mg "isinstance"=none)
  (hv:PE (c.X.suite a ((a,oe)::pn)) (.Name y p2) (tVar i)) (hgx:Gl c.X x) (hx:c.X.mg x=some (.ref C)) (hk:W.kitOne c.X.K (.ref (c.ca k)) (.ref C)=some b) (hdx:(x == ("__debug__":Str))=false:=by decide)
  (hs:starEach [.Name y p2,.Name x p3] c.X.env=(false,eval (.Name y p2) c.X.env)::starEach [.Name x p3] c.X.env:=by rfl) (hs2:starEach [.Name x p3] c.X.env=(false,eval (.Name x p3) c.X.env)::starEach [] c.X.env:=by rfl) (hpl:(backTo pos (starEach [.Name x p3] c.X.env)).any (·.1)=false:=by rfl) :
  JD (suC c a oe pn ms ws) true (.Call (.Name "isinstance" p) [.Name y p2,.Name x p3] [] pos) (gC (.bool b)):=by
 refine⟨_,pe_callB (call_isE hE S.z S.f) hg hm (by decide +kernel) (pa_cons hv (pa_cons (pe_glob (v:=V.ref C) hgx hx rfl hdx) pa_nil hs2) hs) (by decide) (by decide) hs hpl,λ G F ow σ H L Rr=>?_⟩
 have hσ:σ[i]?=some (some (V.ref a)):=Rr.pin i _ (km S.m S.w)
 exact(Post.val (a:=PyData.bool b) (b:=V.bl b) (B:=BD c.X.K) Rr (.bl b)).imp λ Q q=>⟨_,hσ,⟨.ref C,.ref C,b,rfl,λ u h=>h,hk,q⟩⟩
theorem aj4 {i k:Nat}{a:Addr}{oe:Obj}{pn:List (Addr×Obj)}{ms:List Bool}{ws:List V}{y x:Str}{T:String}{b:Bool}{p p2 p3 pos:Pos}(S:SuOk c i k a oe ms ws)(hE:ExcC c.X.K (c.ca k))(hg:Gl c.X "isinstance") (hm:c.X.mg "isinstance"=none)
  (hv:PE (c.X.suite a ((a,oe)::pn)) (.Name y p2) (tVar i)) (hgx:Gl c.X x) (hmT:c.X.mg x=none) (hvT:bootBuiltins x=some (.type T)) (hk:W.kitOne c.X.K (.ref (c.ca k)) (.type T)=some b) (hnT:x≠"__name__":=by decide) (hdx:(x == ("__debug__":Str))=false:=by decide)
  (hs:starEach [.Name y p2,.Name x p3] c.X.env=(false,eval (.Name y p2) c.X.env)::starEach [.Name x p3] c.X.env:=by rfl) (hs2:starEach [.Name x p3] c.X.env=(false,eval (.Name x p3) c.X.env)::starEach [] c.X.env:=by rfl) (hpl:(backTo pos (starEach [.Name x p3] c.X.env)).any (·.1)=false:=by rfl) :
  JD (suC c a oe pn ms ws) true (.Call (.Name "isinstance" p) [.Name y p2,.Name x p3] [] pos) (gC (.bool b)):=by
 refine⟨_,pe_callB (call_isE hE S.z S.f) hg hm (by decide +kernel) (pa_cons hv (pa_cons (pe_bltn (v:=.ty T) hgx hmT hvT rfl hnT hdx) pa_nil hs2) hs) (by decide) (by decide) hs hpl,λ G F ow σ H L Rr=>?_⟩
 have hσ:σ[i]?=some (some (V.ref a)):=Rr.pin i _ (km S.m S.w)
 exact(Post.val (a:=PyData.bool b) (b:=V.bl b) (B:=BD c.X.K) Rr (.bl b)).imp λ Q q=>⟨_,hσ,⟨.ty T,.type T,b,rfl,λ u h=>h,hk,q⟩⟩
end
theorem aj5 {K:W.Frag}{t:Value}{C:Addr}(h1:W.isClsIn K C=true)(h2:W.typeIn K (.ref C)=some (.type "type")) (h3:W.subIn K t (.ref C)=some true):W.kitOne K t (.ref C)=some true:=by
 unfold W.kitOne
 split
 ·rfl
 ·unfold W.kitCls
  dsimp only
  have h1:(W.clsIn K C).isSome=true:=h1
  rw[h1,h2,if_pos (by rfl),h3]
theorem kit_ty {K:W.Frag}{t:Value}{T:String}(h1:W.kitMeta T=true)(h3:W.subIn K t (.type T)=some true):W.kitOne K t (.type T)=some true:=by
 unfold W.kitOne
 split
 ·rfl
 ·unfold W.kitCls
  dsimp only
  rw[if_pos h1,h3]
theorem aj6 {K:W.Frag}{t:Value}{C:Addr}(h0:W.subIn K (.ref C) (.type "BaseException")=some true) (h1:W.isClsIn K C=true) (h2:W.typeIn K (.ref C)=some (.type "type")) (h3:W.subIn K t (.ref C)=some true):W.exmOne K t (.ref C)=some true:=by
 unfold W.exmOne
 rw[h0,if_pos (by rfl)]
 unfold W.kitCls
 dsimp only
 have h1:(W.clsIn K C).isSome=true:=h1
 rw[h1,h2,if_pos (by rfl),h3]
theorem ObAt.tr {c:Ct}{i C:Nat}{fl:List (Str×Nat)}{W:WX}{pn:List (Addr×Obj)}{xe:Value->Shared->Prop}(o:ObAt c i C fl):ObAt (trC c W pn xe) i C fl:=⟨o.ex⟩
section
variable {c:Ct}{G F H:Hp}{ow:Addr->Option Path}{σ:L2.St}{L:LS}{n:Bool}
end
section
variable {K:W.Frag}{ca:Nat->Addr}{bh:Hp}{pn pn':List (Option V)}{G F F' H H':Hp}{ow ow':Addr->Option Path}{σ σ2:L2.St}{L L':LS}{i C:Nat}{js:List Nat}{fs:List (Str×S)}{a dx:Addr}{vs:List (Str×V)}
end
section
variable {K:W.Frag}{ca:Nat->Addr}{bh:Hp}{G F H:Hp}{ow:Addr->Option Path}{σ:L2.St}{L:LS}
end
section
variable {c:Ct}{n:Bool}{as:List Ar}{md:List Bool}{m:LS->R S}{ps:List Str}{x:Str}{i C k j:Nat}{p pos apos:Pos}{e o:Expr}{es:List Expr}
end
end VS
namespace PySem
open Sem (wp)
section
variable {prog:Program}{w:World}{A:Around}{E:Value->Shared->Prop}{s:Shared}
end
end PySem
namespace L2
open PySem PySem.Spec PyProof.Rows
section
variable {X:Cx}{e:Expr}{te:TE}
end
end L2
namespace VS
open PySem PySem.Spec PyProof.Rows L2
section
variable {c:Ct}{n:Bool}{a:Expr}{ga:LS->R D}{p pos p2 pos2:Pos}
end
section
variable {c:Ct}{n:Bool}{a b:Expr}{gb:LS->R D}{pos:Pos}{i:Nat}
end
section
variable {c:Ct}{n:Bool}{a:Expr}{ga:LS->R D}{pos p:Pos}
theorem tD {T:String}{x:Str}{r:List V->Hp->VK->Prop}{f:D->Option D}(hc:CallR c.X (.type T) r)(hg:Gl c.X x)(hm:c.X.mg x=none)(hv:bootBuiltins x=some (.type T))(ha:JV c n a ga)
  (lf:∀ {G F H:Hp} {ow:Addr->Option Path} {σ:L2.St} {L:LS} {d:D} {v:V},c.Rl G F ow σ H L->BV c.X.K F H ow d v->Post c G true F H σ (ofO (f d) L) (BD c.X.K) (r [v] H))
  (hn:x≠"__name__":=by decide) (hdb:(x == ("__debug__":Str))=false:=by decide) (hs:starEach [a] c.X.env=(false,eval a c.X.env)::starEach [] c.X.env:=by rfl) (hpl:(backTo pos (starEach [] c.X.env)).any (·.1)=false:=by rfl) :
  JD c n (.Call (.Name x p) [a] [] pos) (gUn f ga):=by
 obtain⟨ta,pa,qa⟩:=ha;exact⟨_,pe_callTy hc hg hm hv (pa_cons pa pa_nil hs) hn hdb hs hpl,uX qa lf⟩
def KTx (K:W.Frag)(a:Addr)(zs:List Str):Prop:=∃ (o:Obj) (its:Array Value) (n:Nat),K.lookup a=some o/\o.cls=.type "tuple"/\o.data=.seq its n/\its.size<=sizeLine/\Vals (zs.map V.str) its.toList
theorem uH {K:W.Frag}{F:Hp}:∀ zs:List Str,DqA K F (zs.map V.str) (zs.map PyData.str)
 | []=>.nil
 | z::zs=>.cons (.str z) (uH zs)
theorem aht {K:W.Frag}{F H:Hp}{ow:Addr->Option Path}{x:V}{d:D}{z:Bool}{t:Addr}{zs:List Str}(ht:KTx K t zs)(hx:BV K F H ow d x)(hf:dInB d (.tuple (zs.map PyData.str))=some z)(neg:Bool)(Q:VK)(q:Q (.bl (if neg then !z else z)) H):rIn K neg x (.ref t) H Q:=by
 have hf:(if flatD d=true/\(zs.map PyData.str).all flatD=true then some ((zs.map PyData.str).any λ z=>z.eqv d) else none)=some z:=hf
 by_cases h:flatD d=true/\(zs.map PyData.str).all flatD=true
 ·rw[if_pos h]at hf
  cases hf
  rcases hx with hx | ⟨l,vs,ds,rfl,rfl,_,_⟩
  ·rw[←uU hx h.1 (uH zs) h.2]at q
   exact⟨t,_,rfl,.inr (.inr ht),uR hx h.1,qY (uH (K:=K) (F:=F) zs) h.2,q⟩
  ·cases h.1
 ·rw[if_neg h]at hf
  cases hf
theorem aj7 {ta:TE}{t:Addr}{zs:List Str}(neg:Bool)(ht:KTx c.X.K t zs)(ha:Jdg c n ga BV ta):Jdg c n (gOp (λ d e=>(dInB d e).map λ b=>.bool (if neg then !b else b)) ga (gC (.tuple (zs.map PyData.str)))) BD (tOp (rIn c.X.K neg) ta (tC (.ref t))):=by
 intro G F ow σ H L Rr;refine(ha G F ow σ H L Rr).bind1 (t2:=λ v H1 Q=>rIn c.X.K neg v (.ref t) H1 Q) λ d L1 v H1 F1 ow1 _ _ _ R1 b1=>?_;show Post c G true F1 H1 σ (ofO ((dInB d (.tuple (zs.map PyData.str))).map λ b=>PyData.bool (if neg then !b else b)) L1) _ _
 cases hf:dInB d (.tuple (zs.map PyData.str)) with
 | none=>trivial
 | some z=>exact(Post.val (a:=PyData.bool (if neg then !z else z)) (b:=V.bl (if neg then !z else z)) (B:=BD c.X.K) R1 (.bl _)).imp λ Q q=>aht ht b1 hf neg Q q
theorem aex {x:Str}{zs:List Str}(hg:Gl c.X x)(hm:∃ t,c.X.mg x=some (.ref t)/\KTx c.X.K t zs)(ha:JV c n a ga)(hd:(x == ("__debug__":Str))=false:=by decide):JT c n (.Compare a [.NotIn] [.Name x p] pos) (gB (gOp dNotIn ga (gC (.tuple (zs.map PyData.str))))):=by
 obtain⟨ta,p1,q1⟩:=ha;obtain⟨t,h1,h2⟩:=hm;exact⟨_,pt_cmpR op_notIn_seq p1 (pe_glob (v:=.ref t) hg h1 rfl hd) rfl,agf (aj7 true h2 q1)⟩
end
def dTupL:D->Option D
 | .list ds=>some (.tuple ds)
 | _=>none
section
variable {c:Ct}{n:Bool}{a:Expr}{ga:LS->R D}{pos p:Pos}
theorem ye (hg:Gl c.X "tuple") (hm:c.X.mg "tuple"=none) (ha:JV c n a ga) (hs:starEach [a] c.X.env=(false,eval a c.X.env)::starEach [] c.X.env:=by rfl):JD c n (.Call (.Name "tuple" p) [a] [] pos) (gUn dTupL ga) :=
 tD call_tuple_of hg hm (by decide +kernel) ha (λ {G F H ow σ L d v} Rr hb=>by
  rcases hb with hb | ⟨l,vs,ds,rfl,rfl,h1,h2⟩
  ·cases hb with
   | lst h1 h2=>exact(abG Rr h2).imp λ Q q=>⟨_,_,rfl,.inl ⟨.of (Rr.exF _ _ h1),q⟩⟩
   | _=>trivial
  ·exact(abG Rr h2).imp λ Q q=>⟨l,vs,rfl,.inl ⟨h1,q⟩⟩) (by decide) (by decide) hs rfl
end
inductive Aw where
 | d (g:LS->R D)
 | r (i:Nat)
 | o (i:Nat)
 | t (g:LS->R S)
 | b (g:LS->R D)
 | c (g:LS->R D)
 | e (g:LS->R D)
 | l (i:Nat)
inductive Aq where
 | d (d:D)
 | r (i:Nat)
 | t (s:S)
 | b (d:D)
 | c (d:D)
 | e (d:D)
 | l (i:Nat)
section
variable {c:Ct}{n n1 n2 n3:Bool}{a b:Expr}{ga gb:LS->R D}{gs:LS->R (List D)}{ge:LS->R S}{pos:Pos}{es:List Expr}{as:List Aw}
def is0:Option Path->Bool
 | some (0::_)=>true
 | _=>false
section
variable {K:W.Frag}{ca:Nat->Addr}{bh:Hp}{pn:List (Option V)}{G F F1 F2 H H1 H2:Hp}{ow ow1 ow2:Addr->Option Path}{σ σ2:L2.St}{L L1 L2:LS}
end
end
def refsW:List Aq->List Nat
 | []=>[]
 | .r i::xs=>i::refsW xs
 | _::xs=>refsW xs
def lensW:List Aq->List Nat
 | []=>[]
 | .l i::xs=>i::lensW xs
 | _::xs=>lensW xs
def okW (xs:List Aq):Prop:=(refsW xs).Nodup/\∀ i∈lensW xs,i∉refsW xs
instance (xs:List Aq):Decidable (okW xs):=by unfold okW;exact inferInstance
section
variable {c:Ct}{G F H:Hp}{ow:Addr->Option Path}{σ:L2.St}{L:LS}{xs:List Aq}{vs:List V}
open Classical in
end
section
variable {c:Ct}{a b:Expr}{ga gb:LS->R D}{ge:LS->R S}{es:List Expr}{as:List Aw}{md:List Bool}{m:LS->R S}{ps:List Str}{x:Str}{p pos apos:Pos}{e o:Expr}{gs:List Nat}{obs:Obs}{n:Bool}{i C k j:Nat}
theorem aj8 {P:Program}{w:World}{K:W.Frag}{mg:Str->Option Value}{base:Heap}{ca:Nat->Addr}{k:Nat}{f:Addr}{fd:FuncData}{ps:List Str}{md:List Bool}{m:LS->R S}(h:FnOk P w K mg base (L2.CX P w) k f fd ps (VSp K ca md m))(hl:ps.length=md.length):FnOk P w K mg base (L2.CX P w) k f fd ps (VSg K ca [] ps.length md m):=by
 refine FnOk.imp h λ vs H Q E q=>?_
 obtain⟨h0,gv,B,G,F,ow,ss,h1,h2,h3,h4,h5⟩:=q
 have:gv=[]:=by
  cases gv with
  | nil=>rfl
  | cons v gv =>
   rw[List.length_append,List.length_cons]at h1
   omega
 subst this
 rw[List.append_nil]at h1 h4 h5
 exact⟨B,G,F,ow,ss,h2,h4,h5⟩
theorem DxG.of (D:Dx c.X.prog c.X.w c.X.K c.X.mg c.X.base c.ca x k ps md m)(hl:ps.length=md.length):DxG c.X.prog c.X.w c.X.K c.X.mg c.X.base c.ca x k ps [] md m:=by
 obtain⟨f,fd,h1,h2,h3,h4⟩:=D.ex;exact⟨f,fd,aj8 h1 hl,h2,h3,h4⟩
end
def viewS:Option S->Option S
 | some (.d d)=>some (.d d)
 | some (.b d)=>some (.d d)
 | some (.bl ds)=>some (.d (.list ds))
 | some (.ol ds)=>some (.d (.list ds))
 | some (.scr ns)=>some (.scr ns)
 | _=>none
def viewL (L:LS):LS:=L.map viewS
open Classical in
noncomputable def vwF (B F H:Hp)(ow:Addr->Option Path):Hp:=λ a=>match BF B F a with
 | some o=>some o
 | none=>if(∃ p,ow a=some p) then H a else none
def vwG (F' H:Hp):Hp:=λ a=>if(F' a).isSome then none else H a
section
variable {c:Ct}{G F H:Hp}{ow:Addr->Option Path}{σ:L2.St}{L:LS}
theorem aey {B:Hp}:Same (BF B F) (vwF B F H ow):=λ a o h=>by
 unfold vwF;rw[h]
open Classical in
theorem amu (Rr:c.Rl G F ow σ H L):Same (vwF c.B F H ow) H:=λ a o h=>by
 unfold vwF at h
 cases z:BF c.B F a with
 | some u =>
  rw[z]at h;rw[←h];exact BF.inH Rr.exF Rr.exB a u z
 | none =>
  rw[z]at h
  have h:(if(∃ p,ow a=some p) then H a else none)=some o:=h
  split at h
  ·exact h
  ·cases h
theorem amv (Rr:c.Rl G F ow σ H L){a:Addr}{p:Path}(h:ow a=some p):vwF c.B F H ow a=H a:=by
 unfold vwF
 have:BF c.B F a=none:=by
  unfold BF;rw[Rr.dB a p h];exact(Rr.dF a p h).1
 rw[this];exact if_pos ⟨p,h⟩
theorem Rl.view (Rr:c.Rl G F ow σ H L):c.Rl (vwG (vwF c.B F H ow) H) (vwF c.B F H ow) (λ _=>none) σ H (viewL L):=by
 have eF:Same F (vwF c.B F H ow):=λ a o h=>aey a o (BF.inF Rr.exF Rr.exB a o h)
 refine⟨amu Rr,λ a o h=>?_,(λ a p h=>nomatch h),λ a o h=>?_,by unfold viewL;rw[List.length_map];exact Rr.len,λ i s h=>?_,Rr.pin,Rr.exB,(λ a p h=>nomatch h)⟩
 ·unfold vwG at h
  split at h
  ·cases h
  ·exact h
 ·refine .inl ?_;unfold vwG;rw[h]
  rfl
 ·unfold viewL at h;rw[List.getElem?_map]at h;obtain⟨o,h1,h2⟩:=Option.map_eq_some_iff.mp h
  cases o with
  | none=>cases h2
  | some s0 =>
   obtain⟨v,hv,rs⟩:=Rr.sl i s0 h1;refine⟨v,hv,?_⟩
   cases s0 with
   | d d=>cases h2;cases rs with | d q=>exact RT.of (.d (q.up eF))
   | b d=>cases h2;exact RT.of (.d (Dq.up aey rs))
   | bl ds =>
    cases h2
    obtain⟨l,us,rfl,q1,q2⟩:=rs;exact RT.of (.d (.lst (aey l _ q1) (q2.up eF)))
   | ol ds =>
    cases h2
    cases rs with
    | ol a b q=>exact RT.of (.d (.lst ((amv Rr b).trans a) (q.up eF)))
   | scr ns=>cases h2;cases rs with | scr a=>exact RT.of (.scr (sql_same eF a))
   | _=>cases h2
end
section
variable {c:Ct}{n n1 n2:Bool}{a b:Expr}{ga gb:LS->R D}{ge:LS->R S}{pos:Pos}
end
section
variable {c:Ct}{n n1 n2 n3:Bool}{a b tg iter e0:Expr}{ga gb:LS->R D}{ge:LS->R S}{pos:Pos}
end
theorem RI.len {K:W.Frag}{ca:Nat->Addr}{F H:Hp}{ow:Addr->Option Path}:∀ {p:Path} {i:Nat} {ss:List S} {vs:List V},RI K ca F H ow p i ss vs->ss.length=vs.length
 | _,_,[],_,h=>by cases h;rfl
 | _,i,s::ss,_,h=>by
  cases h with
  | cons a b=>rw[List.length_cons,List.length_cons,RI.len b]
theorem RI.snoc {K:W.Frag}{ca:Nat->Addr}{F H:Hp}{ow:Addr->Option Path}{p:Path}{s:S}{v:V}:∀ {i:Nat} {ss:List S} {vs:List V},RI K ca F H ow p i ss vs->RS K ca F H ow (p++[i+ss.length]) s v->RI K ca F H ow p i (ss++[s]) (vs++[v])
 | i,[],_,h,r=>by
  cases h
  exact .cons r .nil
 | i,s0::ss,_,h,r=>by
  cases h with
  | cons a b=>exact .cons a (RI.snoc b (by rw[show i+1+ss.length=i+(s0::ss).length by rw[List.length_cons];omega];exact r))
section
variable {c:Ct}{n n1 n2 n3:Bool}{vs:List Nat}
variable {elt iter:Expr}{own:List (Str×Nat)}{scope:Scope}{pos spos pn:Pos}{gi:LS->R (List D)}{ge:LS->R S}{j:Nat}{x:Str}
end
end VS
namespace VS
open PySem PySem.Spec PyProof.Rows L2
section
variable {c:Ct}{n:Bool}{a:Expr}{ge:LS->R S}{pos p:Pos}
end
def offR (i:Nat)(ow:Addr->Option Path):Addr->Option Path:=λ a=>match ow a with
 | some ((r+1)::q)=>if r=i then none else some ((r+1)::q)
 | x=>x
theorem zP {i:Nat}{ow:Addr->Option Path}{a:Addr}{p:Path}(h:offR i ow a=some p):ow a=some p/\∀ q,p≠(i+1)::q:=by
 unfold offR at h
 split at h
 ·rename_i r q e
  split at h
  ·cases h
  ·rename_i hr
   cases h
   exact⟨e,λ q' z=>by injection z with z _;omega⟩
 ·rename_i hn
  exact⟨h,λ q z=>hn i q (by rw[h,z])⟩
theorem aj9 {i r:Nat}{ow:Addr->Option Path}{a:Addr}{q:Path}(h:ow a=some (r::q))(hr:r≠i+1):offR i ow a=some (r::q):=by
 unfold offR;rw[h]
 cases r with
 | zero=>rfl
 | succ r=>exact if_neg (by omega)
section
variable {K:W.Frag}{ca:Nat->Addr}{bh:Hp}{pn:List (Option V)}{G F H:Hp}{ow:Addr->Option Path}{σ:L2.St}{L:LS}
theorem Rl.drop (r:Rl K ca bh pn G F ow σ H L)(i:Nat):Rl K ca bh pn G F (offR i ow) σ H (L.set i none):=by
 refine⟨r.exF,r.exG,λ a p h=>r.dF a p (zP h).1,r.dG,by rw[List.length_set];exact r.len,λ k s h=>?_,r.pin,r.exB,λ a p h=>r.dB a p (zP h).1⟩;rcases jJ h with ⟨_,h1⟩ | ⟨h1,h2⟩
 ·cases h1
 ·obtain⟨v,q1,q2⟩:=r.sl k s h2;exact⟨v,q1,q2.go (Same.refl F) λ a q e=>⟨rfl,aj9 (q:=q) e (by omega)⟩⟩
theorem RI.get:∀ {p:Path} {i k:Nat} {ss:List S} {vs:List V} {v:V},RI K ca F H ow p i ss vs->vs[k]?=some v->∃ s,ss[k]?=some s/\RS K ca F H ow (p++[i+k]) s v
 | p,i,k,[],_,v,h,e=>by cases h;cases e
 | p,i,k,s::ss,_,v,h,e=>by
  cases h with
  | cons a b =>
   cases k with
   | zero=>cases e;exact⟨s,rfl,a⟩
   | succ k =>
    obtain⟨t,h1,h2⟩:=RI.get (k:=k) b e;exact⟨t,h1,by rw[show i+(k+1)=i+1+k by omega];exact h2⟩
end
section
variable {c:Ct}{iter test:Expr}{scope:Scope}{own:List (Str×Nat)}{i j:Nat}{x:Str}{pn p1 p2 p3 lpos apos cpos ppos pos:Pos}
end
section
variable {c:Ct}{es:List Expr}{as:List Aw}{pos:Pos}
end
section
variable {c:Ct}{n:Bool}{e:Expr}{i:Nat}
open Classical in
end
section
variable {c:Ct}{n:Bool}{a b d:Expr}{gs:LS->R (List D)}{pos p:Pos}
end
section
variable {c:Ct}
end
section
variable {c:Ct}{e:Expr}{i:Nat}
theorem ObAt.blk {C:Nat}{fl:List (Str×Nat)}{scope:Scope}{b:Bk}(o:ObAt c i C fl):ObAt (c.blk scope b) i C fl:=⟨o.ex⟩
end
section
variable {c:Ct}{n1 n2:Bool}{a b:Expr}{ga gb:LS->R D}{pos:Pos}
end
section
variable {c:Ct}
end
section
variable {c:Ct}{pos:Pos}
end
section
variable {c:Ct}{n:Bool}{a:Expr}{ga:LS->R D}{pos p:Pos}
end
def BPq:W.Frag->Hp->Hp->(Addr->Option Path)->List (Key×D)->List (V×V)->Prop:=λ K F _ _ ds ps=>∃ kvs:List (Key×V),ps=kvs.map (λ kv=>(kV kv.1,kv.2))/\DqK K F kvs ds
def JPq (c:Ct)(n:Bool)(ks:List (Option Expr))(vs:List Expr)(g:LS->R (List (Key×D))):Prop:=∃ trs,(∀ pos,PPs c.X pos ks vs trs)/\Jdg c n g BPq (tPairs trs)
def gPNil:LS->R (List (Key×D)):=λ L=>.ok [] L
def gPCons (ga gb:LS->R D)(gr:LS->R (List (Key×D))):LS->R (List (Key×D)):=λ L=>(ga L).bind λ d L1=>(gb L1).bind λ e L2=>(gr L2).bind λ r L3=>match keyD d with
 | some k=>.ok ((k,e)::r) L3
 | none=>.stuck
def mergeD (kvs more:List (Key×D)):List (Key×D):=more.foldl (λ acc kv=>putD acc kv.1 kv.2) kvs
def gDlitN (g:LS->R (List (Key×D))):LS->R S:=λ L=>(g L).bind λ kvs L1=>if kvs.length<=15 then .ok (.odK (mergeD [] kvs)) L1 else .stuck
theorem DqK.merge {K:W.Frag}{F:Hp}:∀ {more:List (Key×V)} {ms:List (Key×D)} {kvs:List (Key×V)} {ds:List (Key×D)},DqK K F more ms->DqK K F kvs ds->DqK K F (mergeK kvs more) (mergeD ds ms):=by
 intro more ms kvs ds r
 unfold DqK at r
 induction r generalizing kvs ds with
 | nil=>intro q;exact q
 | @cons p q ps qs h t ih =>
  intro r0
  have e:DqK K F (putK kvs p.1 p.2) (putD ds q.1 q.2):=by
   rw[←h.1]
   exact r0.put p.1 h.2
  exact ih e
section
variable {c:Ct}{n n1 n2 n3:Bool}{a b:Expr}{ks:List (Option Expr)}{vs:List Expr}{ga gb:LS->R D}{gr:LS->R (List (Key×D))}{pos:Pos}
theorem aez:JPq c true [] [] gPNil:=⟨[],λ _=>pps_nil,λ G F ow σ H L Rr Q q=>q [] H F ow (Same.refl F) (λ _=>Same.refl H) Rr ⟨[],rfl,.nil⟩⟩
theorem jP (h1:JD c n1 a ga)(h2:JD c n2 b gb)(h3:JPq c n3 ks vs gr):JPq c (n1&&(n2&&n3)) (some a::ks) (b::vs) (gPCons ga gb gr):=by
 obtain⟨t1,p1,q1⟩:=h1;obtain⟨t2,p2,q2⟩:=h2;obtain⟨trs,p3,q3⟩:=h3;refine⟨(t1,t2)::trs,λ pos=>pps_cons p1 p2 (p3 pos),λ G F ow σ H L Rr=>?_⟩;refine(q1 G F ow σ H L Rr).bind (t2:=λ x H1 Q=>t2 σ H1 λ y H2=>tPairs trs σ H2 λ ps H3=>Q ((x,y)::ps) H3) λ d L1 x H1 F1 ow1 _ _ _ R1 b1=>?_;refine(q2 G F1 ow1 σ H1 L1 R1).bind (t2:=λ y H2 Q=>tPairs trs σ H2 λ ps H3=>Q ((x,y)::ps) H3) λ e L2 y H2 F2 ow2 _ e2 _ R2 b2=>?_
 have:=(q3 G F2 ow2 σ H2 L2 R2).bind (n2:=true) (k:=λ r L3=>match keyD d with
  | some k=>R.ok ((k,e)::r) L3
  | none=>R.stuck) (B2:=BPq c.X.K) (t2:=λ ps H3 Q=>Q ((x,y)::ps) H3) λ r L3 ps H3 F3 ow3 _ e3 _ R3 b3=>by
   cases hk:keyD d with
   | none=>trivial
   | some k =>
    obtain⟨kvs,rfl,hd⟩:=b3;refine Post.val (a:=(k,e)::r) (b:=(x,y)::kvs.map (λ kv=>(kV kv.1,kv.2))) (B:=BPq c.X.K) R3 ⟨(k,y)::kvs,?_,.cons ⟨rfl,Dq.up e3 b2⟩ hd⟩;rw[aaT b1 hk]
    rfl
 rw[Bool.and_true]at this;exact this
theorem abW (h:JPq c n ks vs gr)(hall:ks.all (·.isSome)=true)(hl:ks.length=vs.length)(h0:ks≠[])(h15:ks.length<=15):JE c false (.Dict ks vs pos) (gDlitN gr):=by
 obtain⟨trs,p,q⟩:=h;refine⟨_,pe_disp (p pos) hall hl h0 h15,λ G F ow σ H L Rr=>?_⟩
 have main:∀ p,H p=none->G p=none->c.B p=none->Post c G false F H σ (gDlitN gr L) (BE c.ca c.X.K) (λ Q=>tPairs trs σ (upd H p (.dK [])) λ ps H2=>H2 p=some (.dK [])/\∃ kvs:List (Key×V),ps=kvs.map (λ kv=>(kV kv.1,kv.2))/\kvs.length<=15/\Q (.ref p) (upd H2 p (.dK (mergeK [] kvs)))):=by
  intro p hp hG hB;obtain⟨_,R0⟩:=Rr.newG (o:=.dK []) hp
  have h1:=q _ F ow σ _ L R0
  unfold gDlitN
  cases hr:gr L with
  | stuck=>trivial
  | err e L1 =>
   rw[hr]at h1;exact λ hw Q=>h1 (λ H' F' ow' e1 R1=>hw H' F' ow' e1 (R1.weakG hG)) _
  | ok ms L1 =>
   rw[hr]at h1;show Post c G false F H σ (if ms.length<=15 then R.ok (S.odK (mergeD [] ms)) L1 else .stuck) _ _
   by_cases hc:ms.length<=15
   ·rw[if_pos hc];intro Q qq;refine h1 _ λ ps H1 F1 ow1 e1 _ R1 b1=>?_;obtain⟨kvs,rfl,hk⟩:=b1;refine⟨R1.exG p _ upd_same,kvs,rfl,by rw[Paired.length hk];exact hc,?_⟩
    have R3:=R1.ownG (p:=[0]) (u:=.dK (mergeK [] kvs)) hG hB kT_dK kT_dK
    exact qq _ _ F1 _ e1 (λ z=>by cases z) R3 (.odK upd_same (qX ..) (DqK.merge hk .nil))
   ·rw[if_neg hc]
    trivial
 cases hr:gDlitN gr L with
 | stuck=>trivial
 | err e L1 =>
  intro hw Q p hp
  have h:=main p hp (Rr.exG.free hp) (Rr.exB.free hp)
  rw[hr]at h;exact h hw Q
 | ok s L1 =>
  intro Q q p hp
  have h:=main p hp (Rr.exG.free hp) (Rr.exB.free hp)
  rw[hr]at h;exact h Q q
end
section
variable {c:Ct}{n n1 n2:Bool}{a b k:Expr}{ge:LS->R S}{gk:LS->R D}{i:Nat}{lp sp p pos:Pos}{x:Str}{kk j N:Nat}{ps:List Str}{md:List Bool}{m:LS->R S}{e:Expr}{es:List Expr}{ev:LS->R (List Aq)}
end
section
variable {c:Ct}{n1 n2:Bool}{a b:Expr}{ga gb:LS->R D}{pos:Pos}{kk:Nat}
end
def flat:D->Bool
 | .tuple ds=>ds.all scal
 | d=>scal d
section
variable {K:W.Frag}{ca:Nat->Addr}{F F' H H':Hp}{ow ow':Addr->Option Path}
end
section
variable {c:Ct}{G F H:Hp}{ow:Addr->Option Path}{σ:L2.St}{L:LS}
end
section
variable {c:Ct}{n n1 n2:Bool}{a b:Expr}{ga gb:LS->R D}{ge:LS->R S}{gt:LS->R Bool}{pos:Pos}
end
section
variable {c:Ct}{n n1 n2:Bool}{k:Expr}{gk:LS->R D}{i j:Nat}{lp sp pos pos':Pos}{x:Str}{es:List Expr}{as:List Aw}{rest:List Stmt}{g0 g1:LS->R O}
end
section
variable {c:Ct}{n n1 n2:Bool}{a b e:Expr}{ga gb:LS->R D}{gs:LS->R (List D)}{pos p p2 apos:Pos}{ss:List Stmt}{st:Stmt}
end
theorem amw {X:Cx}:CallR X (.type "str") (λ xs H Q=>(∃ i,xs=[.int i]/\i.natAbs.log2 < 1920/\Q (.str (toString i)) H)∨∃ a,xs=[V.str a]/\Q (.str a) H):=by
 intro pins s σ H xs us Q I r h;rcases h with ⟨i,rfl,hz,q⟩ | ⟨a,rfl,q⟩
 ·exact call_str_int pins s σ H _ us Q I r ⟨i,rfl,hz,q⟩
 ·exact SkE.call_str_str pins s σ H _ us Q I r ⟨a,rfl,q⟩
def dStr:D->Option D
 | .int i=>if i.natAbs.log2 < 1920 then some (.str (toString i)) else none
 | .str a=>some (.str a)
 | _=>none
def dIntS:D->Option D
 | .str a=>if a.length<=640 then(PySem.intText? a).map .int else none
 | _=>none
def dSplit (d e:D):Option S:=match d,e with
 | .str a,.str b=>if(b.length == 0)=false/\a.length+2<=sizeLine then some (.ol ((Txt.split a b).map PyData.str)) else none
 | _,_=>none
def gSplit (ga gb:LS->R D):LS->R S:=λ L=>(ga L).bind (λ d L1=>match d with
 | .str a=>(gb L1).bind λ e L2=>ofO (dSplit (.str a) e) L2
 | _=>.stuck)
section
variable {c:Ct}{n n1 n2:Bool}{a b e:Expr}{ga gb:LS->R D}{gs:LS->R (List D)}{pos p p2 apos:Pos}
theorem aka (hg:Gl c.X "str") (hm:c.X.mg "str"=none) (ha:JV c n a ga) (hs:starEach [a] c.X.env=(false,eval a c.X.env)::starEach [] c.X.env:=by rfl):JD c n (.Call (.Name "str" p) [a] [] pos) (gUn dStr ga) :=
 tD amw hg hm (by decide +kernel) ha (λ {G F H ow σ L d v} Rr hb=>by
  rcases hb with hb | ⟨l,vs,ds,rfl,rfl,h1,h2⟩
  ·cases hb with
   | int i =>
    show Post c G true F H σ (ofO (if i.natAbs.log2 < 1920 then some (PyData.str (toString i)) else none) L) _ _
    by_cases h:i.natAbs.log2 < 1920
    ·rw[if_pos h];exact(Post.val (a:=PyData.str (toString i)) (b:=V.str (toString i)) (B:=BD c.X.K) Rr (.str _)).imp λ Q q=>.inl ⟨i,rfl,h,q⟩
    ·rw[if_neg h]
     trivial
   | str x=>exact(Post.val (a:=PyData.str x) (b:=V.str x) (B:=BD c.X.K) Rr (.str _)).imp λ Q q=>.inr ⟨x,rfl,q⟩
   | _=>trivial
  ·trivial) (by decide) (by decide) hs rfl
theorem aeA (hg:Gl c.X "int") (hm:c.X.mg "int"=none) (ha:JV c n a ga) (hs:starEach [a] c.X.env=(false,eval a c.X.env)::starEach [] c.X.env:=by rfl):JD c n (.Call (.Name "int" p) [a] [] pos) (gUn dIntS ga) :=
 tD call_int_str hg hm (by decide +kernel) ha (λ {G F H ow σ L d v} Rr hb=>by
  rcases hb with hb | ⟨l,vs,ds,rfl,rfl,h1,h2⟩
  ·cases hb with
   | str x =>
    show Post c G true F H σ (ofO (if x.length<=640 then(PySem.intText? x).map PyData.int else none) L) _ _
    by_cases h:x.length<=640
    ·rw[if_pos h]
     cases hi:PySem.intText? x with
     | none=>trivial
     | some i=>exact(Post.val (a:=PyData.int i) (b:=V.int i) (B:=BD c.X.K) Rr (.int _)).imp λ Q q=>⟨x,i,rfl,hi,h,q⟩
    ·rw[if_neg h]
     trivial
   | _=>trivial
  ·trivial) (by decide) (by decide) hs rfl
theorem zQ {ta tb:TE}(qa:Jdg c n1 ga BD ta)(qb:Jdg c n2 gb BD tb):Jdg c (n1&&n2) (gSplit ga gb) (BE c.ca) (tM1 (λ x xs H Q=>∃ a b,x=.str a/\xs=[.str b]/\(b.length == 0)=false/\a.length+2<=sizeLine/\rNewStrs (Txt.split a b) H Q) ta tb):=λ G F ow σ H L Rr=>by
 refine(qa G F ow σ H L Rr).bind (t2:=λ(v:V) H1 (Q:VK)=>(∃ a,v=V.str a)/\tb σ H1 λ y H2=>∃ a b,v=V.str a/\[y]=[V.str b]/\(b.length == 0)=false/\a.length+2<=sizeLine/\rNewStrs (Txt.split a b) H2 Q) λ d L1 v H1 F1 ow1 _ _ _ R1 b1=>?_
 cases b1 with
 | str x =>
  refine Post.imp (t:=λ Q=>tb σ H1 λ y H2=>∃ a b,V.str x=V.str a/\[y]=[V.str b]/\(b.length == 0)=false/\a.length+2<=sizeLine/\rNewStrs (Txt.split a b) H2 Q) ?_ λ Q q=>⟨⟨x,rfl⟩,q⟩;refine(qb G F1 ow1 σ H1 L1 R1).bind1 (t2:=λ y H2 Q=>∃ a b,V.str x=V.str a/\[y]=[V.str b]/\(b.length == 0)=false/\a.length+2<=sizeLine/\rNewStrs (Txt.split a b) H2 Q) λ e L2 u H2 F2 ow2 _ e2 _ R2 b2=>?_
  cases b2 with
  | str y =>
   show Post c G true F2 H2 σ (ofO (if(y.length == 0)=false/\x.length+2<=sizeLine then some (S.ol ((Txt.split x y).map PyData.str)) else none) L2) _ _
   by_cases h:(y.length == 0)=false/\x.length+2<=sizeLine
   ·rw[if_pos h];exact(nH R2 (uH (K:=c.X.K) (F:=F2) (Txt.split x y))).imp λ Q q=>⟨x,y,rfl,rfl,h.1,h.2,q⟩
   ·rw[if_neg h]
    trivial
  | _=>trivial
 | _=>trivial
theorem abX (ha:JD c n1 a ga)(hb:JD c n2 b gb)(hs:starEach [b] c.X.env=[(false,eval b c.X.env)]:=by rfl)(hbase:attributeBase a "split" c.X.env (eval a c.X.env)=eval a c.X.env:=by rfl) (hline:(apos.endLine == pos.line)=true:=by rfl) :
  JE c (n1&&n2) (.Call (.Attribute a "split" apos) [b] [] pos) (gSplit ga gb):=by
 obtain⟨ta,pa,qa⟩:=ha;obtain⟨tb,pb,qb⟩:=hb;exact⟨_,pe_split pa pb hs hbase hline,zQ qa qb⟩
end
def KTab (K:PySem.W.Frag)(w:World)(t:Addr)(rows:List (Str×Str)):Prop:=(∃ es n,KDict K w t es n)/\∀ z:Str,∃ r,PySem.W.nsIn K t z=some r/\r.isSome=(rows.lookup z).isSome/\∀ y,rows.lookup z=some y->∃ u,r=some u/\RelV (V.str y) u
section
variable {c:Ct}{n n1 n2:Bool}{a b e:Expr}{ga gb:LS->R D}{pos p p2 apos:Pos}{t:Addr}{rows:List (Str×Str)}{x:Str}
def aaV (rows:List (Str×Str)):D->Option D
 | .str z=>some (.bool (!(rows.lookup z).isSome))
 | _=>none
def dTab (rows:List (Str×Str)):D->Option D
 | .str z=>(rows.lookup z).map .str
 | _=>none
theorem aor {X:Cx}{o i:Expr}{to ti:TE}{d:Addr}{es:Array DictEntry}{m:Nat}{pos:Pos}(D:KDict X.K X.w d es m)(ho:PE X o to)(hi:PE X i ti)(hs:NoSl i):PE X (.Subscript o i pos) (λ σ H Q=>to σ H λ x H1=>ti σ H1 λ y H2=>∃ (z:Str) (u0:Value) (v0:V),x=.ref d/\y=.str z/\PySem.W.nsIn X.K d z=some (some u0)/\RelV v0 u0/\Q v0 H2):=by
 refine⟨λ pins s σ H Q I h=>?_⟩
 refine subD_of PySem.F.slot_dict_getitem.lookup hs (thn (ho.run pins s σ H _ I h) λ u s1 ⟨x,H1,I1,rx,q1⟩=>thn (hi.run pins s1 σ H1 _ I1 q1) λ iv s2 ⟨y,H2,I2,ry,q2⟩=>?_)
 have q3:=q2
 obtain⟨z,u0,v0,rfl,rfl,e,r,q⟩:=q2
 have hx:=rx
 cases rx
 exact⟨kd_type D I2,op_item_kd D pins s2 σ H2 _ _ _ _ Q I2 hx ry q3⟩
theorem amx (hg:Gl c.X x)(hm:∃ t,c.X.mg x=some (.ref t)/\KTab c.X.K c.X.w t rows)(ha:JD c n a ga)(hs:NoSl a:=by exact λ _ _=>rfl)(hd:(x == ("__debug__":Str))=false:=by decide):JD c n (.Subscript (.Name x p) a pos) (gUn (dTab rows) ga):=by
 obtain⟨ta,p1,q1⟩:=ha;obtain⟨t,h1,⟨es,m,D⟩,h2⟩:=hm;refine⟨_,aor D (pe_glob (v:=.ref t) hg h1 rfl hd) p1 hs,λ G F ow σ H L Rr=>?_⟩;refine(q1 G F ow σ H L Rr).bind1 (t2:=λ y H2 Q=>∃ (z:Str) (u0:Value) (v0:V),V.ref t=.ref t/\y=.str z/\PySem.W.nsIn c.X.K t z=some (some u0)/\RelV v0 u0/\Q v0 H2) λ d L1 v H1 F1 ow1 _ _ _ R1 b1=>?_
 cases b1 with
 | str z =>
  show Post c G true F1 H1 σ (ofO ((rows.lookup z).map PyData.str) L1) _ _;obtain⟨r,e1,e2,e3⟩:=h2 z
  cases hz:rows.lookup z with
  | none=>trivial
  | some y =>
   obtain⟨u,rfl,e4⟩:=e3 y hz;exact(Post.val (a:=PyData.str y) (b:=V.str y) (B:=BD c.X.K) R1 (.str y)).imp λ Q q=>⟨z,u,V.str y,rfl,rfl,e1,e4,q⟩
 | _=>trivial
theorem akb {ta:TE}(neg:Bool)(h2:∀ z:Str,∃ r,PySem.W.nsIn c.X.K t z=some r/\r.isSome=(rows.lookup z).isSome/\∀ y,rows.lookup z=some y->∃ u,r=some u/\RelV (V.str y) u)(q1:Jdg c n ga BD ta):Jdg c n (gUn (λ d=>match d with
  | .str z=>some (.bool (if neg then !(rows.lookup z).isSome else(rows.lookup z).isSome))
  | _=>none) ga) BD (λ σ H Q=>ta σ H λ y H2=>∃ (z:Str) (r:Option Value),y=.str z/\V.ref t=.ref t/\PySem.W.nsIn c.X.K t z=some r/\Q (V.bl (if neg then !r.isSome else r.isSome)) H2):=λ G F ow σ H L Rr=>by
 refine(q1 G F ow σ H L Rr).bind1 (t2:=λ y H2 Q=>∃ (z:Str) (r:Option Value),y=.str z/\V.ref t=.ref t/\PySem.W.nsIn c.X.K t z=some r/\Q (V.bl (if neg then !r.isSome else r.isSome)) H2) λ d L1 v H1 F1 ow1 _ _ _ R1 b1=>?_
 cases b1 with
 | str z =>
  obtain⟨r,e1,e2,e3⟩:=h2 z
  exact(Post.val (a:=PyData.bool (if neg then !(rows.lookup z).isSome else(rows.lookup z).isSome)) (b:=V.bl (if neg then !r.isSome else r.isSome)) (B:=BD c.X.K) R1 (by rw[e2];exact .bl _)).imp λ Q q=>⟨z,r,rfl,rfl,e1,q⟩
 | _=>trivial
theorem aeB:(λ d:D=>match d with
  | .str z=>some (PyData.bool (if true then !(rows.lookup z).isSome else(rows.lookup z).isSome))
  | _=>none)=aaV rows:=by
 funext d
 cases d<;>rfl
theorem aeC (hg:Gl c.X x)(hm:∃ t,c.X.mg x=some (.ref t)/\KTab c.X.K c.X.w t rows)(ha:JD c n a ga)(hd:(x == ("__debug__":Str))=false:=by decide):JT c n (.Compare a [.NotIn] [.Name x p] pos) (gB (gUn (aaV rows) ga)):=by
 obtain⟨ta,p1,q1⟩:=ha;obtain⟨t,h1,⟨es,m,D⟩,h2⟩:=hm;rw[←aeB];exact⟨_,pt_cmpR (op_notIn_kd D) p1 (pe_glob (v:=.ref t) hg h1 rfl hd) rfl,agf (akb true h2 q1)⟩
end
section
variable {c:Ct}{n n1 n2:Bool}{a b e:Expr}{ga gb gd gf:LS->R D}{pos p p2 apos:Pos}
def getX (i:Nat)(d e:D)(L:LS):R D:=match dictAt L[i]? d with
 | some r=>.ok (r.getD e) L
 | none=>.stuck
def gDGetX (i:Nat)(g f:LS->R D):LS->R D:=λ L=>match L[i]? with
 | some (some (.odT _))=>(g L).bind λ d L1=>(f L1).bind λ e L2=>getX i d e L2
 | some (some (.odK _))=>(g L).bind λ d L1=>(f L1).bind λ e L2=>getX i d e L2
 | _=>.stuck
theorem abY {e0:Expr}{i k:Nat}(hr:Room k c.X.A)(h:PSl c i e0)(ha:JD c n1 b gd)(hf:JD c n2 e gf)(m:M2 c.X e0 "get" apos b e pos:=by exact⟨rfl,rfl,rfl,rfl⟩):JD c (n1&&n2) (.Call (.Attribute e0 "get" apos) [b,e] [] pos) (gDGetX i gd gf):=by
 obtain⟨ta,pa,qa⟩:=ha;obtain⟨tf,pf,qf⟩:=hf;obtain⟨te,h,hte⟩:=h;refine⟨_,pe_dget2 (by have:=hr.un;omega) h pa pf m,λ G F ow σ H L Rr=>?_⟩
 have step:∀ (u:V) (l:Addr),u=.ref l->σ[i]?=some (some u)->IsD H l->Post c G (n1&&n2) F H σ ((gd L).bind λ d L1=>(gf L1).bind λ e L2=>getX i d e L2) (BD c.X.K) (tDGet2 te ta tf σ H):=λ u l hul hu hd=>by
  subst hul
  have key:=(qa G F ow σ H L Rr).bind (n2:=n2) (k:=λ d L1=>(gf L1).bind λ e L2=>getX i d e L2) (B2:=BD c.X.K) (t2:=λ y H1 Q=>tf σ H1 λ z H2=>∃ o,DGet H2 l y o/\Q (o.getD z) H2) λ d L1 y H1 F1 ow1 _ _ _ R1 b1=>by
    refine(qf G F1 ow1 σ H1 L1 R1).bind1 (t2:=λ z H2 Q=>∃ o,DGet H2 l y o/\Q (o.getD z) H2) λ e L2 w H2 F2 ow2 _ e2 _ R2 b2=>?_;unfold getX
    cases hr:dictAt L2[i]? d with
    | none=>trivial
    | some r =>
     obtain⟨l',o,h1,h2,h3⟩:=ahq R2 (Dq.up e2 b1) hr;rw[hu]at h1
     cases h1
     cases r with
     | none =>
      have h3:o=none:=h3
      subst h3
      exact(Post.val (a:=e) (b:=w) (B:=BD c.X.K) R2 b2).imp λ Q q=>⟨none,h2,q⟩
     | some z' =>
      obtain⟨v,rfl,h3⟩:=h3;exact(Post.val (a:=z') (b:=v) (B:=BD c.X.K) R2 h3).imp λ Q q=>⟨some v,h2,q⟩
  exact key.imp λ Q q=>hte Rr hu _ ⟨l,rfl,hd,q⟩
 unfold gDGetX
 cases hL:L[i]? with
 | none=>trivial
 | some o =>
  cases o with
  | none=>trivial
  | some s =>
   obtain⟨u,hu,rs⟩:=Rr.sl i s hL
   cases s with
   | odT d =>
    cases rs with
    | odT h1 h2 h3=>exact step _ _ rfl hu (.inr ⟨_,.inl h1⟩)
   | odK d =>
    cases rs with
    | odK h1 h2 h3=>exact step _ _ rfl hu (.inl ⟨_,.inl h1⟩)
   | _=>trivial
end
inductive Zs where
 | l (a:Addr) (xs:List V)
 | t (x:Str)
def Zs.v:Zs->V
 | .l a _=>.ref a
 | .t x=>.str x
def Zs.len:Zs->Nat
 | .l _ xs=>xs.length
 | .t x=>x.cps.size
def Zs.at1:Zs->Nat->V->Prop
 | .l _ xs,i,v=>xs[i]?=some v
 | .t x,i,v=>∃ c,x.cps[i]?=some c/\v=.str ⟨#[c]⟩
def Zs.live (K:PySem.W.Frag)(H:Hp):Zs->Prop
 | .l a xs=>SqL K H a xs
 | .t _=>True
def Zs.st (it:Addr):Zs->Nat->Heap->Prop
 | .l a _,i,h=>h.IsListIter it a i
 | .t x,i,h=>∃ t,h.IsStrIter it (strIterType x) x t i
def Zs.ad:Zs->List Addr
 | .l a _=>[a]
 | .t _=>[]
theorem Zs.st_at {z:Zs}{it:Addr}{i:Nat}{h h':Heap}(hs:z.st it i h)(k:∀ o,h.get? it=some o->h'.get? it=some o):z.st it i h':=by
 cases z with
 | l a xs=>exact Heap.IsListIter.at hs k
 | t x =>
  obtain⟨t,o,e,q⟩:=hs;exact⟨t,o,k o e,q⟩
theorem Zs.st_obj {z:Zs}{it:Addr}{i:Nat}{h:Heap}(hs:z.st it i h):∃ o,h.get? it=some o/\∀ v,o.data≠.cell v:=by
 cases z with
 | l a xs =>
  obtain⟨o,e,_,d⟩:=hs;exact⟨o,e,λ v q=>by rw[d]at q;cases q⟩
 | t x =>
  obtain⟨t,o,e,_,d⟩:=hs;exact⟨o,e,λ v q=>by rw[d]at q;cases q⟩
section
variable {X:Cx}{pins:List (Addr×Obj)}{σ:L2.St}{H:Hp}{s:Shared}
theorem zdraw (I:Inv X pins σ H s)(hh:X.A.in1.handled=none)(z:Zs){it:Addr}{i:Nat}(hs:z.st it i s.heap)(lv:z.live X.K H)(hne:it∉z.ad) :
  ∃ (fp:List Addr) (P:Nat->Value->Prop) (St:Nat->Heap->Prop),Draws X.prog X.w X.A.in1 it fp z.len P St/\St i s.heap/\it∈fp/\(∀ b∈fp,b=it∨b∈z.ad)/\(∀ j h,St j h->z.st it j h) /\
   (∀ j v,P j v->∃ x,z.at1 j x/\RelV x v):=by
 cases z with
 | l a xs =>
  obtain⟨its,rv,p,_⟩:=I.list lv
  have hl:=rv.length
  have D:=Draws.list (prog:=X.prog) (w:=X.w) hh it a (λ e=>hne (by rw[e];exact List.mem_singleton.mpr rfl)) its.toArray
  have e0:its.toArray.size=(Zs.l a xs).len:=by
   show its.toArray.size=xs.length
   simp[hl]
  rw[e0]at D;refine⟨[it,a],_,_,D,⟨hs,p.isList⟩,List.mem_cons_self,λ b hb=>?_,λ j h q=>q.1,λ j v hv=>?_⟩
  ·simp only[List.mem_cons,List.not_mem_nil,or_false]at hb
   rcases hb with hb | hb
   ·exact .inl hb
   ·exact .inr (by rw[hb];exact List.mem_singleton.mpr rfl)
  ·have hv:its.toArray[j]?=some v:=hv
   have hv:its[j]?=some v:=by simpa using hv
   have hj:j < xs.length:=by
    have:=(List.getElem?_eq_some_iff.mp hv).1
    omega
   obtain⟨u,e1,e2⟩:=rv.get (List.getElem?_eq_getElem hj);rw[hv]at e1
   cases e1
   exact⟨xs[j],List.getElem?_eq_getElem hj,e2⟩
 | t x =>
  obtain⟨t,hs⟩:=hs;exact⟨[it],_,_,Draws.text hh it x t,hs,List.mem_singleton.mpr rfl,λ b hb=>.inl (List.mem_singleton.mp hb),λ j h q=>⟨t,q⟩,λ j v ⟨c,u,h1,h2⟩=>⟨.str ⟨#[c]⟩,⟨c,h1,rfl⟩,u,h2⟩⟩
theorem zbegin (I:Inv X pins σ H s)(z:Zs)(lv:z.live X.K H){u:Value}(ru:RelV z.v u):∃ (o:Obj) (Hb:Heap->Prop),Begins u o Hb/\Hb s.heap/\∀ h it,h.get? it=some o->z.st it 0 h:=by
 cases z with
 | l a xs =>
  obtain⟨its,rv,p,_⟩:=I.list lv
  cases ru
  exact⟨_,_,begins_list a its.toArray,p.isList,λ h it e=>⟨_,e,rfl,rfl⟩⟩
 | t x =>
  obtain⟨t,rfl⟩:=ru;exact⟨_,_,begins_text x t,trivial,λ h it e=>⟨t,_,e,rfl,rfl⟩⟩
end
structure ZG (z TI TO i1 i2:Addr)(as:List Addr):Prop where
 nd:[z,TI,TO,i1,i2].Nodup
 out:∀ a∈as,a∉[z,TI,TO,i1,i2]
def Itg (K:PySem.W.Frag)(s1 s2:Zs):It :=
 ⟨λ i H=>s1.live K H/\s2.live K H/\i < s1.len/\i < s2.len,
  λ i H v H'=>∃ T x y,v=.ref T/\H T=none/\H'=upd H T (.tup [x,y])/\s1.at1 i x/\s2.at1 i y,
  λ i H=>s1.live K H/\s2.live K H/\(s1.len<=i∨s2.len<=i)⟩
theorem zsep {z TI TO i1 i2:Addr}{as bs fp1 fp2:List Addr}(D:ZG z TI TO i1 i2 (as++bs))(m1:i1∈fp1)(m2:i2∈fp2)(h1:∀ b∈fp1,b=i1∨b∈as)(h2:∀ b∈fp2,b=i2∨b∈bs):ZipSep2 z TI TO i1 i2 fp1 fp2:=by
 have nd:=D.nd
 simp only[List.nodup_cons,List.mem_cons,List.not_mem_nil,or_false,not_or]at nd
 obtain⟨⟨n1,n2,n3,n4⟩,⟨n5,n6,n7⟩,⟨n8,n9⟩,n10,_⟩:=nd
 have oa:∀ b∈as,b∉[z,TI,TO,i1,i2]:=λ b hb=>D.out b (List.mem_append_left _ hb)
 have ob:∀ b∈bs,b∉[z,TI,TO,i1,i2]:=λ b hb=>D.out b (List.mem_append_right _ hb)
 have no1:∀ {c:Addr},c∈[z,TI,TO,i1,i2]->c≠i1->c∉fp1:=λ hc hne hm=>by
  rcases h1 _ hm with e | e
  ·exact hne e
  ·exact oa _ e hc
 have no2:∀ {c:Addr},c∈[z,TI,TO,i1,i2]->c≠i2->c∉fp2:=λ hc hne hm=>by
  rcases h2 _ hm with e | e
  ·exact hne e
  ·exact ob _ e hc
 exact { TIz:=λ e=>n1 e.symm,TOz:=λ e=>n2 e.symm,TITO:=n5,TIi1:=n6,mem1:=m1,zf1:=no1 (by simp) n3,Tf1:=no1 (by simp) n8,TIi2:=n7,mem2:=m2,zf2:=no2 (by simp) n4,Tf2:=no2 (by simp) n9,sep1_2:=no2 (by simp) n10,sep2_1:=no1 (by simp) λ e=>n10 e.symm }
theorem akc {P:Program}{w:World}{K:PySem.W.Frag}{elts:List Expr}{kk:Nat}{tpos:Pos}{s1 s2:Zs}{z TI TO i1 i2:Addr}(D:ZG z TI TO i1 i2 (s1.ad++s2.ad)) :
  Turn P w K (.Tuple elts kk tpos) (Itg K s1 s2) [z,TI,TO,i1,i2] z (λ i h=>IsZip h z TI TO .none/\IsTupOf2 h TI (.ref i1) (.ref i2)/\(∃ x y,IsTupOf2 h TO x y)/\s1.st i1 i h/\s2.st i2 i h/\i<=s1.len/\i<=s2.len) where
 mem:=by simp
 obj:=λ i h st c hc=>by
  obtain⟨hz,hTI,⟨x,y,hTO⟩,h1,h2,b1,b2⟩:=st
  have e':c=z∨c=TI∨c=TO∨c=i1∨c=i2:=by simpa using hc
  rcases e' with q | q | q | q | q
  ·rw[q];exact⟨_,hz,λ v q=>nomatch q⟩
  ·rw[q];exact⟨_,hTI,λ v q=>nomatch q⟩
  ·rw[q];exact⟨_,hTO,λ v q=>nomatch q⟩
  ·rw[q];exact Zs.st_obj h1
  ·rw[q];exact Zs.st_obj h2
 keep:=λ i h h' st k=>by
  obtain⟨hz,hTI,⟨x,y,hTO⟩,h1,h2,b1,b2⟩:=st
  exact⟨k z (by simp) _ hz,k TI (by simp) _ hTI,⟨x,y,k TO (by simp) _ hTO⟩,Zs.st_at h1 (λ o q=>k i1 (by simp) o q),Zs.st_at h2 (λ o q=>k i2 (by simp) o q),b1,b2⟩
 item:=by
  intro X hP hw hK hc i pins s σ H E I hf st hg
  subst hP hw hK
  obtain⟨hz,hTI,⟨x0,y0,hTO⟩,h1,h2,b1,b2⟩:=st
  obtain⟨lv1,lv2,hlt1,hlt2⟩:=hg
  have hh:X.A.in1.handled=none:=I.ok.hd hc
  have o1:i1∉s1.ad:=λ e=>D.out i1 (List.mem_append_left _ e) (by simp)
  have o2:i2∉s2.ad:=λ e=>D.out i2 (List.mem_append_right _ e) (by simp)
  obtain⟨fp1,P1,St1,D1,q1,m1,f1,g1,v1⟩:=zdraw I hh s1 h1 lv1 o1
  obtain⟨fp2,P2,St2,D2,q2,m2,f2,g2,v2⟩:=zdraw I hh s2 h2 lv2 o2
  have S:=zsep D m1 m2 f1 f2
  have nd:=D.nd
  simp only[List.nodup_cons,List.mem_cons,List.not_mem_nil,or_false,not_or]at nd
  obtain⟨⟨k1,k2,k3,k4⟩,⟨k5,k6,k7⟩,⟨k8,k9⟩,k10,_⟩:=nd
  have hzl:z < s.heap.objs.size:=Heap.lt_size hz
  refine wpAny_pyNext_zipD2_item S D1 D2 hz hTI hTO q1 q2 hlt1 hlt2 λ u1 u2 h' tk p1 p2 z' TO' st1' st2' hT hsz hk=>?_
  obtain⟨x1,r1,w1⟩:=v1 _ _ p1
  obtain⟨x2,r2,w2⟩:=v2 _ _ p2
  refine⟨_,rfl,wpAny_letOwnedTupleGo_zip (s:={ s with heap:=h',toks:=tk }) z' λ h'' z'' sb=>?_⟩
  have hT2:h''.get? s.heap.objs.size=some { cls:=.type "tuple",data:=.seq #[u1,u2] }:=(sb.2 _ (Nat.ne_of_gt hzl)).trans hT
  have new:ObjOk X.prog X.w (upd H s.heap.objs.size (.tup [x1,x2])) h'' s.heap.objs.size (.tup [x1,x2]) :=
   ⟨by show 2<=sizeLine;decide,[u1,u2],.cons w1 (.cons w2 .nil),⟨_,hT2,rfl,_,rfl⟩⟩
  have I1:Inv X pins σ (upd H s.heap.objs.size (.tup [x1,x2])) { s with heap:=h'',toks:=tk } :=
   I.turnedNew (t':=tk) (ch:=[z,TI,TO,i1,i2]) (λ c o hb q=>(sb.2 c (λ q'=>hb (by simp[q']))).trans (hk c o (λ q'=>hb (by simp[q'])) (λ q'=>hb (by simp[q'])) (λ q'=>hb (by simp[q'])) (λ q'=>hb (by simp[q'])) q)) hf (Nat.le_refl _) new
  refine⟨.ref s.heap.objs.size,_,I1,rfl,⟨_,x1,x2,rfl,I.hok.fresh (Nat.le_refl _),rfl,r1,r2⟩,⟨z'',?_,⟨u1,u2,?_⟩,?_,?_,hlt1,hlt2⟩,λ c hcm=>?_⟩
  ·exact(sb.2 _ (λ e=>k1 e.symm)).trans (hk _ _ (λ e=>k1 e.symm) k5 k6 k7 hTI)
  ·exact(sb.2 _ (λ e=>k2 e.symm)).trans TO'
  ·exact Zs.st_at (g1 _ _ st1') λ o q=>(sb.2 _ (λ e=>k3 e.symm)).trans q
  ·exact Zs.st_at (g2 _ _ st2') λ o q=>(sb.2 _ (λ e=>k4 e.symm)).trans q
  ·have hlt:c < s.heap.objs.size:=by
    have e':c=z∨c=TI∨c=TO∨c=i1∨c=i2:=by simpa using hcm
    rcases e' with q | q | q | q | q
    ·rw[q];exact hzl
    ·rw[q];exact Heap.lt_size hTI
    ·rw[q];exact Heap.lt_size hTO
    ·rw[q];obtain⟨_,e1,_⟩:=Zs.st_obj h1;exact Heap.lt_size e1
    ·rw[q];obtain⟨_,e2,_⟩:=Zs.st_obj h2;exact Heap.lt_size e2
   rw[upd_ne (Nat.ne_of_lt hlt)]
   exact(hf c hcm).1
 done:=by
  intro X hP hw hK hc i pins s σ H E I hf st hg
  subst hP hw hK
  obtain⟨hz,hTI,⟨x0,y0,hTO⟩,h1,h2,b1,b2⟩:=st
  obtain⟨lv1,lv2,hend⟩:=hg
  have hh:X.A.in1.handled=none:=I.ok.hd hc
  have o1:i1∉s1.ad:=λ e=>D.out i1 (List.mem_append_left _ e) (by simp)
  have o2:i2∉s2.ad:=λ e=>D.out i2 (List.mem_append_right _ e) (by simp)
  obtain⟨fp1,P1,St1,D1,q1,m1,f1,g1,v1⟩:=zdraw I hh s1 h1 lv1 o1
  obtain⟨fp2,P2,St2,D2,q2,m2,f2,g2,v2⟩:=zdraw I hh s2 h2 lv2 o2
  have S:=zsep D m1 m2 f1 f2
  have he:i=s1.len∨i=s2.len:=by
   rcases hend with q | q
   ·exact .inl (Nat.le_antisymm b1 q)
   ·exact .inr (Nat.le_antisymm b2 q)
  exact wpAny_pyNext_zipD2_end S D1 D2 hz hTI hTO q1 q2 b1 b2 he λ h' tk hk=>⟨rfl,I.turnedL (t':=tk) (ch:=[z,TI,TO,i1,i2]) (λ c o hb q =>
   hk c o (λ q'=>hb (by simp[q'])) (λ q'=>hb (by simp[q'])) (λ q'=>hb (by simp[q'])) (λ q'=>hb (by simp[q'])) q) hf⟩
 self:=λ A i s Q E st h=>wpAny_pyIter_zip st.1 h
def iZg (K:PySem.W.Frag)(ta:TA):TI:=λ σ H R=>ta σ H λ vs H1=>∃ s1 s2:Zs,vs=[s1.v,s2.v]/\s1.live K H1/\s2.live K H1/\R (Itg K s1 s2) H1
theorem aos {X:Cx}{e e2:Expr}{ta:TA}{p pos tpos:Pos}{elts:List Expr}{kk:Nat}(hg:Gl X "zip") (hm:X.mg "zip"=none) (ha:PA X [e,e2] ta)
  (hs:starEach [e,e2] X.env=(false,eval e X.env)::starEach [e2] X.env:=by rfl) (hpl:(backTo pos (starEach [e2] X.env)).any (·.1)=false:=by rfl) :
  PI X (.Tuple elts kk tpos) (.Call (.Name "zip" p) [e,e2] [] pos) (iZg X.K ta):=by
 refine⟨λ pins s σ H R I h=>?_⟩;refine Call_ (ld_blt I hg hm PyProof.Rows.boot_zip (PyProof.Rows.callWith_type1 (thn (ha.run pos pins s σ H _ I h) λ us s1 ⟨vs,H1,I1,r1,q1⟩=>?_) hs hpl));obtain⟨za,zb,ex,la,lb,q⟩:=q1
 subst ex
 cases r1 with
 | cons r rr =>
  cases rr with
  | cons r' rr =>
   cases rr
   obtain⟨oa,Ha,Ba,ha1,ha2⟩:=zbegin I1 za la r;obtain⟨ob,Hb,Bb,hb1,hb2⟩:=zbegin I1 zb lb r'
   have old:∀ (zz:Zs),zz.live X.K H1->∀ a∈zz.ad,a < s1.heap.objs.size:=λ zz lv a ha=>by
    cases zz with
    | l b xs =>
     obtain⟨its,rv,p1,_⟩:=I1.list lv;rw[List.mem_singleton.mp ha];exact p1.lt
    | t x=>cases ha
   refine zip_begins2 Ba Bb ha1 hb1 λ h' hz hTI hTO h1 h2 hsz hk=>wpAny_pyIter_zip hz ?_
   have I2:Inv X pins σ H1 { s1 with heap:=h' }:=I1.kept (t':=s1.toks) hk
   refine⟨s1.heap.objs.size+4,[s1.heap.objs.size+4,s1.heap.objs.size+2,s1.heap.objs.size+3,s1.heap.objs.size,s1.heap.objs.size+1],_,_,H1,rfl,I2,akc ⟨?_,λ a ham hin=>?_⟩,⟨hz,hTI,⟨_,_,hTO⟩,ha2 _ _ h1,hb2 _ _ h2,Nat.zero_le _,Nat.zero_le _⟩,λ c hcm=>?_,q⟩
   ·generalize s1.heap.objs.size=N
    show([(N+4:Nat),(N+2:Nat),(N+3:Nat),(N:Nat),(N+1:Nat)]:List Nat).Nodup
    simp
   ·have hlt:a < s1.heap.objs.size:=by
     rcases List.mem_append.mp ham with e | e
     ·exact old za la a e
     ·exact old zb lb a e
    have e':a=s1.heap.objs.size+4∨a=s1.heap.objs.size+2∨a=s1.heap.objs.size+3∨a=s1.heap.objs.size∨a=s1.heap.objs.size+1:=by simpa using hin
    have gen:∀ (N a:Nat),a < N->¬ (a=N+4∨a=N+2∨a=N+3∨a=N∨a=N+1):=λ N a h=>by omega
    exact gen _ _ hlt e'
   ·have e':c=s1.heap.objs.size+4∨c=s1.heap.objs.size+2∨c=s1.heap.objs.size+3∨c=s1.heap.objs.size∨c=s1.heap.objs.size+1:=by simpa using hcm
    have hle:s1.heap.objs.size<=c:=by
     rcases e' with z | z | z | z | z
     ·rw[z];exact Nat.le_add_right _ _
     ·rw[z];exact Nat.le_add_right _ _
     ·rw[z];exact Nat.le_add_right _ _
     ·rw[z];exact Nat.le_refl _
     ·rw[z];exact Nat.le_add_right _ _
    exact I1.fpOk hle (I1.hok.fresh hle)
def zsrc:D->Option (List D)
 | .list ds=>some ds
 | .str x=>some (x.cps.toList.map λ n=>.str ⟨#[n]⟩)
 | _=>none
def asZg:List D->LS->R (List D)
 | [a,b],L=>(match zsrc a,zsrc b with
  | some xs,some ys=>.ok (zipD xs ys) L
  | _,_=>.stuck)
 | _,_=>.stuck
theorem amy {K:PySem.W.Frag}{F H:Hp}{d:D}{v:V}{ds:List D}(eF:Same F H)(q:Dq K F v d)(h:zsrc d=some ds):∃ z:Zs,v=z.v/\z.live K H/\z.len=ds.length/\(∀ H',Same F H'->z.live K H')/\∀ (i:Nat) (x:V) (e:D),z.at1 i x->ds[i]?=some e->Dq K F x e:=by
 cases q with
 | @lst a xs _ h1 h2 =>
  cases h
  refine⟨.l a xs,rfl,.of (eF _ _ h1),h2.len,λ H' s=>.of (s _ _ h1),λ i x e hx he=>?_⟩
  obtain⟨u,q1,q2⟩:=h2.get he
  have hx:xs[i]?=some x:=hx
  rw[hx]at q1
  cases q1
  exact q2
 | str x =>
  cases h
  refine⟨.t x,rfl,trivial,by show x.cps.size=_;simp,λ _ _=>trivial,λ i y e hy he=>?_⟩
  obtain⟨n,q1,rfl⟩:=hy
  rw[List.getElem?_map,Array.getElem?_toList,q1]at he
  cases he
  exact .str _
 | _=>cases h
section
variable {c:Ct}{n:Bool}{a b:Expr}{gs:LS->R (List D)}{p pos:Pos}
theorem aeD {tpos:Pos}{elts:List Expr}{kk:Nat}(hg:Gl c.X "zip") (hm:c.X.mg "zip"=none) (h:JA c n [a,b] gs)
  (hs:starEach [a,b] c.X.env=(false,eval a c.X.env)::starEach [b] c.X.env:=by rfl) (hpl:(backTo pos (starEach [b] c.X.env)).any (·.1)=false:=by rfl) :
  JI c n (.Tuple elts kk tpos) (.Call (.Name "zip" p) [a,b] [] pos) (λ L=>(gs L).bind asZg):=by
 obtain⟨t,q,k⟩:=h;refine⟨_,aos hg hm q hs hpl,λ G F ow σ H L Rr=>(k G F ow σ H L Rr).bind1 (t2:=λ vs H1 Q=>∃ s1 s2:Zs,vs=[s1.v,s2.v]/\s1.live c.X.K H1/\s2.live c.X.K H1/\Q (Itg c.X.K s1 s2) H1) λ ds L1 vs H1 F1 ow1 _ _ _ R1 b1=>?_⟩;show Post c G true F1 H1 σ (asZg ds L1) _ _
 match ds,vs,b1 with
 | [d1,d2],_,.cons (v:=v1) r1 (.cons (v:=v2) r2 .nil) =>
  cases h1:zsrc d1 with
  | none =>
   have e:asZg [d1,d2] L1=.stuck:=by simp only[asZg,h1]
   rw[e]
   trivial
  | some xs =>
   cases h2:zsrc d2 with
   | none =>
    have e:asZg [d1,d2] L1=.stuck:=by simp only[asZg,h1,h2]
    rw[e]
    trivial
   | some ys =>
    have e:asZg [d1,d2] L1=.ok (zipD xs ys) L1:=by simp only[asZg,h1,h2]
    rw[e];obtain⟨z1,rfl,l1,n1,k1,g1⟩:=amy R1.exF r1 h1;obtain⟨z2,rfl,l2,n2,k2,g2⟩:=amy R1.exF r2 h2;refine(Post.val (a:=zipD xs ys) (b:=Itg c.X.K z1 z2) (B:=BI c.B c.X.K) R1 λ i H s _=>⟨λ hi=>⟨k1 _ s,k2 _ s,?_⟩,λ d hd=>?_⟩).imp λ Q q=>⟨z1,z2,rfl,l1,l2,q⟩
    ·rw[yc]at hi;rw[n1,n2]
     omega
    ·obtain⟨x,y,hx,hy,rfl⟩:=yd hd;refine⟨⟨k1 _ s,k2 _ s,by rw[n1];exact(List.getElem?_eq_some_iff.mp hx).1,by rw[n2];exact(List.getElem?_eq_some_iff.mp hy).1⟩,λ x' H' ⟨T,x1,y1,e1,e2,e3,e4,e5⟩=>.inr ⟨T,[x1,y1],[x,y],rfl,e1,e2,e3,.cons (g1 _ _ _ e4 hx) (.cons (g2 _ _ _ e5 hy) .nil)⟩⟩
 | [],_,_=>trivial
 | [_],_,_=>trivial
 | _::_::_::_,_,_=>trivial
end
end VS
namespace VS
open PySem PySem.Spec PyProof.Rows L2 CwR
def txIdx (k:Str)(ys:List Str):Option Nat:=ys.findIdx? λ y=>y == k
def dIdx:D->D->Option D
 | .list ds,.str k=>(strsOf ds).bind λ ys=>(txIdx k ys).map λ j=>.int (j:Nat)
 | _,_=>none
def idxL (gb:LS->R D):D->LS->R D
 | .list ds,L1=>(gb L1).bind λ e L2=>ofO (dIdx (.list ds) e) L2
 | _,_=>.stuck
def yf (ga gb:LS->R D):LS->R D:=λ L=>(ga L).bind (idxL gb)
section
variable {c:Ct}{n n1 n2:Bool}{a b e:Expr}{es:List Expr}{ga gb:LS->R D}{gs:LS->R (List D)}{pos p p2 apos:Pos}
theorem zR (ha:JV c n1 a ga)(hb:JD c true b gb)
  (hbase:attributeBase a "index" c.X.env (eval a c.X.env)=eval a c.X.env:=by rfl)
  (hfew:((backTo pos (starEach [b] c.X.env)).all (λ x=>!x.1)&&(backToKw pos (keywordEach [] c.X.env)).all (λ x=>x.1.isSome)&&decide ([b].length+([]:List Keyword).length+(if([]:List Keyword).isEmpty then 0 else 1) < 30))=true:=by rfl)
  (hline:(apos.endLine == pos.line)=true:=by rfl) (hs:starEach [b] c.X.env=(false,eval b c.X.env)::starEach [] c.X.env:=by rfl) (hplain:(backTo pos (starEach [] c.X.env)).any (·.1)=false:=by rfl) :
  JD c n1 (.Call (.Attribute a "index" apos) [b] [] pos) (yf ga gb):=by
 obtain⟨ta,p1,q1⟩:=ha;obtain⟨tb,p2,q2⟩:=hb;refine⟨_,pe_bm PySem.F.plainAttrs_list PySem.F.slot_list_index PySem.F.type_list_index mt_index p1 (pa_cons p2 pa_nil hs) hbase hfew hline hs hplain,λ G F ow σ H L Rr=>?_⟩;refine(q1 G F ow σ H L Rr).bind1 (t2:=λ v H1 Q=>tyV c.X.K "list" v H1/\tb σ H1 λ y H2=>rIndex c.X.K v [y] H2 Q) λ d L1 v H1 F1 ow1 _ _ _ R1 b1=>?_
 cases d with
 | list ds =>
  obtain⟨l,vs,rfl,h1,h2⟩:=aec R1 b1
  have key:=(q2 G F1 ow1 σ H1 L1 R1).bind1 (k:=λ e L2=>ofO (dIdx (.list ds) e) L2) (B2:=BD c.X.K) (t2:=λ y H2 Q=>rIndex c.X.K (.ref l) [y] H2 Q) λ e L2 u H2 F2 ow2 _ e2 s2 R2 b2=>by
   cases b2 with
   | str k =>
    show Post c G true F2 H2 σ (ofO ((strsOf ds).bind λ ys=>(txIdx k ys).map λ j=>PyData.int (j:Nat)) L2) _ _
    cases hk:strsOf ds with
    | none=>trivial
    | some ys =>
     cases hj:txIdx k ys with
     | none=>show Post c G true F2 H2 σ (ofO (((some ys).bind λ ys=>(txIdx k ys).map λ j=>PyData.int (j:Nat))) L2) _ _;rw[show((some ys).bind λ ys=>(txIdx k ys).map λ j=>(PyData.int (j:Nat):D))=none by simp[hj]];trivial
     | some j =>
      rw[show((some ys).bind λ ys=>(txIdx k ys).map λ j=>(PyData.int (j:Nat):D))=some (PyData.int (j:Nat)) by simp[hj]]
      have e3:=uY h2 hk
      have hs3:SqL c.X.K H2 l (ys.map V.str):=by rw[←e3];exact sql_same (s2 rfl) h1
      obtain⟨hjl,hje,hjn⟩:=List.findIdx?_eq_some_iff_getElem.mp hj;refine(Post.val (a:=PyData.int (j:Nat)) (b:=V.int (j:Nat)) (B:=BD c.X.K) R2 (.int _)).imp λ Q q=>⟨l,ys.map V.str,.str k,j,.str ys[j],rfl,rfl,hs3,rfl,?_,?_,hje,λ m z hm hz=>?_,q⟩
      ·rw[List.all_map];exact List.all_eq_true.mpr λ _ _=>rfl
      ·rw[List.getElem?_map,List.getElem?_eq_getElem hjl]
       rfl
      ·rw[List.getElem?_map,List.getElem?_eq_getElem (Nat.lt_trans hm hjl)]at hz
       cases hz
       exact Bool.eq_false_iff.mpr (hjn m hm)
   | _=>trivial
  exact key.imp λ Q q=>⟨.inl ⟨rfl,_,h1⟩,q⟩
 | _=>trivial
end
def JBT (c:Ct)(s:List Stmt)(g:LS->R O):Prop:=∃ t,PSsT c.X s t/\JdgS c g t
section
variable {c:Ct}{n n1 n2:Bool}{a b e:Expr}{ga gb:LS->R D}{pos p p2 apos:Pos}{st:Stmt}{rest:List Stmt}{g g1 g2:LS->R O}
theorem yg {t t':TS}(q:JdgS c g1 t)(q':JdgS c g2 t'):JdgS c (gSeq g1 g2) (tSeq t t'):=λ G F ow σ H L Rr E h=>by
 refine q G F ow σ H L Rr { E with nx:=t' E } ?_;unfold gSeq at h
 cases hr:g1 L with
 | stuck=>rw[hr]at h;exact h
 | err k L1=>rw[hr]at h;exact h
 | ok o L1 =>
  rw[hr]at h
  cases o with
  | nx=>exact λ σ' H' F' ow' e R'=>q' G F' ow' σ' H' L1 R' E (Fit.up e h)
  | bk=>exact h
  | ct=>exact h
  | rt s=>exact h
theorem abZ (h1:JS c st g1)(h2:JBT c rest g2):JBT c (st::rest) (gSeq g1 g2):=by
 obtain⟨t,p,q⟩:=h1;obtain⟨t',p',q'⟩:=h2;exact⟨_,psst_cons (PST.of p) p',yg q q'⟩
def dReplC (y z:Str):D->Option D
 | .str x=>if x.length+(x.length+1) * z.length<=16777216 then some (.str (Txt.replace x y z)) else none
 | _=>none
theorem akd (i:Nat){x y z:Str}{j k:Nat}{c0 c1 pos':Pos}(hN:c.X.N.Nodup)(hi:c.X.N[i]?=some x)(hx:Loc c.X.env.scope x)(hp:c.free i)(ha:JD c n a ga)(h2:JB c rest g2)
  (hyz:(y == z)=false:=by decide)
  (hst:starEach [.Constant (.str y) j c0,.Constant (.str z) k c1] c.X.env=[(false,eval (.Constant (.str y) j c0) c.X.env),(false,eval (.Constant (.str z) k c1) c.X.env)]:=by rfl)
  (hbase:attributeBase a "replace" c.X.env (eval a c.X.env)=eval a c.X.env:=by rfl) (hline:(apos.endLine == p.line)=true:=by rfl)
  (hs:swapsWith (.Call (.Attribute a "replace" apos) [.Constant (.str y) j c0,.Constant (.str z) k c1] [] p) (some (.Name x pos')) pos.line c.X.env=pure false:=by rfl)
  (hf:c.X.fn x=true∨c.X.env.scope.names.lookup x=some .local:=by first | exact .inl rfl | exact .inr rfl | assumption) :
  JBT c (.Assign [.Name x pos'] (.Call (.Attribute a "replace" apos) [.Constant (.str y) j c0,.Constant (.str z) k c1] [] p) pos::rest) (gSeq (gAsg i (gD (gUn (dReplC y z) ga))) g2):=by
 obtain⟨ta,pa,qa⟩:=ha;obtain⟨t',p',q'⟩:=h2
 have pe:=pet_replC (X:=c.X) (o:=a) (to:=ta) (y:=y) (z:=z) (j:=j) (k:=k) (c0:=c0) (c1:=c1) (apos:=apos) (pos:=p) pa hyz hst hbase hline
 have pst:PST c.X (.Assign [.Name x pos'] (.Call (.Attribute a "replace" apos) [.Constant (.str y) j c0,.Constant (.str z) k c1] [] p) pos) (tAsg (tReplC ta y z) (L2.gName i)):=by
  intro pins s σ H D h0 I h;refine wpAny_Assign_Name (thn (pe pins s σ H _ h0 I h) λ v s1 ⟨y,H1,I1,r1,q1⟩=>?_) hs;exact store_ok I1 hN hi hx r1 (λ s2 I2=>⟨_,H1,I2,q1⟩) hf
 refine⟨_,psst_cons pst (PSsT.of p'),yg (rA (n:=n) hp λ G F ow σ H L Rr=>?_) q'⟩
 have q1:Post c G n F H σ (gUn (dReplC y z) ga L) (BD c.X.K) (tReplC ta y z σ H):=by
  refine(qa G F ow σ H L Rr).bind1 (t2:=λ v H1 Q=>∃ x,v=V.str x/\x.length+(x.length+1) * z.length<=16777216/\Q (V.str (Txt.replace x y z)) H1) λ d L1 v H1 F1 ow1 _ _ _ R1 b1=>?_
  cases b1 with
  | str w =>
   show Post c G true F1 H1 σ (ofO (if w.length+(w.length+1) * z.length<=16777216 then some (PyData.str (Txt.replace w y z)) else none) L1) _ _
   by_cases h:w.length+(w.length+1) * z.length<=16777216
   ·rw[if_pos h];exact(Post.val (a:=PyData.str (Txt.replace w y z)) (b:=V.str (Txt.replace w y z)) (B:=BD c.X.K) R1 (.str _)).imp λ Q q=>⟨w,rfl,h,q⟩
   ·rw[if_neg h]
    trivial
  | _=>trivial
 have:=q1.bind (n2:=true) (k:=λ d L1=>.ok (.d d) L1) (B2:=BE c.ca c.X.K) (t2:=λ b H1 Q=>Q b H1) λ a L1 b H1 F1 ow1 _ _ _ R1 q=>Post.val (a:=S.d a) (B:=BE c.ca c.X.K) R1 (RS.d q)
 rw[Bool.and_true]at this;exact this
theorem aeE (i:Nat){x y:Str}{j:Nat}{c0 pos':Pos}(hN:c.X.N.Nodup)(hi:c.X.N[i]?=some x)(hx:Loc c.X.env.scope x)(hp:c.free i)(ha:JD c n a ga)(h2:JBT c rest g2)
  (hst:starEach [.Constant (.str y) j c0] c.X.env=[(false,eval (.Constant (.str y) j c0) c.X.env)]:=by rfl)
  (hbase:attributeBase a "split" c.X.env (eval a c.X.env)=eval a c.X.env:=by rfl) (hline:(apos.endLine == p.line)=true:=by rfl)
  (hs:swapsWith (.Call (.Attribute a "split" apos) [.Constant (.str y) j c0] [] p) (some (.Name x pos')) pos.line c.X.env=pure false:=by rfl)
  (hf:c.X.fn x=true∨c.X.env.scope.names.lookup x=some .local:=by first | exact .inl rfl | exact .inr rfl | assumption) :
  JB c (.Assign [.Name x pos'] (.Call (.Attribute a "split" apos) [.Constant (.str y) j c0] [] p) pos::rest) (gSeq (gAsg i (gSplit ga (gC (.str y)))) g2):=by
 obtain⟨ta,pa,qa⟩:=ha;obtain⟨t',p',q'⟩:=h2
 have qb:Jdg c true (gC (.str y)) BD (tC (.str y)):=λ G F ow σ H L Rr=>Post.val (a:=PyData.str y) (b:=V.str y) (B:=BD c.X.K) Rr (.str _)
 refine⟨_,?_,yg (rA hp (zQ qa qb)) q'⟩;refine⟨λ pins s σ H D I h=>?_⟩;refine wpAny_execs_cons (wpAny_Assign_Name ?_ hs);refine PySem.Call_method1 hbase hst hline (thn (pa.run pins s σ H _ I h) λ v s1 ⟨x1,H1,I1,r1,q1⟩=>?_);obtain⟨⟨a1,rfl⟩,q1⟩:=q1;obtain⟨t1,rfl⟩:=_root_.id r1;refine⟨"str",_,PySem.F.plainAttrs_str,PySem.F.slot_str_split,PySem.F.type_str_split,typeIs_str _ _ _,(λ _ e=>nomatch e),Calls.callWith_builtin rfl (Calls.evalArgs_plain (Calls.spliced_cons (Calls.Constant_str (Calls.spliced_nil ?_))))⟩;refine wpAny_mono (PySem.wpAny_toks (mt_split pins { s1 with toks:=s1.toks+1 } σ H1 _ [.str y] _ [.str y s1.toks] _ (I1.tok _) r1 (.cons ⟨_,rfl⟩ .nil) q1)) (λ v s2 q=>?_) λ _ _ z=>z.2;obtain⟨hk,x2,H2,I2,r2,q2⟩:=q
 have hk2:s1.toks+1<=s2.toks:=hk
 refine wpAny_mono (PySem.wpAny_toks (store_ok (Q:=λ _ s3=>Inv c.X pins (σ.set i (some x2)) H2 s3) I2 hN hi hx r2 (λ s3 I3=>I3) hf)) (λ _ s3 q=>?_) λ _ _ z=>z.2
 have hk3:s2.toks<=s3.toks:=q.1
 exact p' pins s3 _ H2 D (by omega) q.2 q2
end
end VS
namespace VS
open PySem PySem.Spec PyProof.Rows L2
section
variable {c:Ct}{p pos apos:Pos}
end
section
variable {c:Ct}{a b e0:Expr}{gb:LS->R D}{pos:Pos}{i:Nat}
end
end VS
set_option maxHeartbeats 2000000
namespace VS
open PySem PySem.Spec PyProof PyProof.Rows L2 HandSPX
section
variable {M:Model}{A:Around}{E:Value->Shared->Prop}{s:Shared}{env:Env}
theorem vh {env':Env}(h:env'.frame=env.frame)(u:Value):noteFrame u env'=noteFrame u env:=by
 unfold noteFrame PySem.frameOf;rw[h]
def postF (E:Value->Shared->Prop)(fr:Option Addr)(M:Model)(A:Around)(use:Option (Value->Sem Unit))(Q:Value->Shared->Prop)(acc:Value)(C:Addr)(r:Result)(s':Shared):Prop :=
 match r,use with
 | .ok _,none=>∃ m,s'.heap.Ns C m/\∀ h',Heap.SameBut C s'.heap h'->Q acc { s' with heap:=h' }
 | .ok _,some u=>wpAny M A (u acc) (λ _ s''=>∃ m,s''.heap.Ns C m/\∀ h',Heap.SameBut C s''.heap h'->Q .none { s'' with heap:=h' }) E s'
 | .error x,_=>∃ m,s'.heap.Ns C m/\∀ h',Heap.SameBut C s'.heap h'->∀ cenv:Env,cenv.frame=fr->wpAny M A (passOn "comprehension.variables-let-go" x cenv:Sem Value) (λ _ _=>False) E { s' with heap:=h' }
theorem aaW {e:Expr}{scope:Scope}{pos:Pos}{newAcc first:Sem Value}{g:Comprehension}{gs:List Comprehension}{cl:List (Str×Addr)}{use:Option (Value->Sem Unit)}{Q:Value->Shared->Prop}
  (hcl:clausesOf e=g::gs) (hs:∀ x,foldedSetIterable g.iter env x=pure x) (hclos:closureFor scope env=pure cl) (hkind:scope.kind=.function) (hnames:∀ x∈scope.names,x.2=.local->scope.names.lookup x.1=some .local)
  (h:wpAny M A first (λ x s₁=>wpAny M A (pyIter x) (λ it s₂=>wpAny M A newAcc (λ acc s₃=>wpAny M A (newFunctionEnv scope env.globals cl [] env.qual none .none (some env)) (λ cenv s₄ =>
    codeAny M A (.compStart e 0 it acc { cenv with scope:=relabel scope env }) (postF E cenv.frame M A use Q acc cenv.locals) s₄) E s₃) E s₂) E s₁) E s) :
  wpAny M A (comprehension e scope env pos newAcc false first use) Q E s:=by
 unfold comprehension;rw[hclos,hcl]
 refine wpAny_bind (wpAny_mono h (λ x s₁ h₁=>wpAny_bind (wpAny_standAt (wpAny_bind (wpAny_of_eq (hs x) (wpAny_bind (wpAny_holding (wpAny_mono h₁ (λ it s₂ h₂ =>
  wpAny_standIf (wpAny_bind (wpAny_mono h₂ (λ acc s₃ h₃=>wpAny_bind (wpAny_pure (wpAny_bind (wpAny_mono h₃ (λ cenv s₄ h₄=>?_) λ _ _ h'=>h')))) λ _ _ h'=>h'))) λ _ _ h'=>h'))))))) λ _ _ h'=>h')
 dsimp only
 have loc:∀ x∈scope.names,x.2=.local->Env.kindOf { cenv with scope:=relabel scope env } x.1=some .local:=λ x hx hl=>lookup_relabel_local (hnames x hx hl)
 have hv:∀ x∈(scope.names.filter λ x=>(x.2 == .local||x.2 == .cell)&&x.1 != (".0":Str)).reverse,x.2=.local->Env.kindOf { cenv with scope:=relabel scope env } x.1=some .local :=
  λ x hx hl=>loc x (List.mem_filter.mp (List.mem_reverse.mp hx)).1 hl
 have hv':∀ x∈(scope.names.filter λ x=>(x.2 == .local||x.2 == .cell)&&x.1 != (".0":Str)).reverse.drop 1++(scope.names.filter λ x=>(x.2 == .local||x.2 == .cell)&&x.1 != (".0":Str)).reverse.take 1,
   x.2=.local->Env.kindOf { cenv with scope:=relabel scope env } x.1=some .local:=λ x hx hl=>by
  rcases List.mem_append.mp hx with z | z
  ·exact hv x (List.mem_of_mem_drop z) hl
  ·exact hv x (List.mem_of_mem_take z) hl
 refine wpAny_holding (wpAny_bind (wpAny_attempt (wpAny_holding (wpAny_run (codeAny_mono h₄ λ r s' hr=>?_)))))
 cases r with
 | ok f =>
  cases use with
  | none =>
   obtain⟨m,hn,hr⟩:=hr;exact wpAny_bind (wpAny_holding (wpAny_comp_letGo (cenv:={ cenv with scope:=relabel scope env }) hkind _ s' m hv hn λ h' m' _ hs'=>wpAny_pure (hr h' hs')))
  | some u =>
   refine wpAny_bind (wpAny_rule (wpAny_bind (wpAny_holding (wpAny_mono hr (λ _ s'' hr'=>?_) λ _ _ h'=>h'))));obtain⟨m,hn,hr'⟩:=hr';exact wpAny_bind (wpAny_comp_letGo (cenv:={ cenv with scope:=relabel scope env }) hkind _ s'' m hv' hn λ h' m' _ hs'=>wpAny_pure (hr' h' hs'))
 | error x =>
  have hr':∃ m,s'.heap.Ns cenv.locals m/\∀ h',Heap.SameBut cenv.locals s'.heap h'->∀ cenv':Env,cenv'.frame=cenv.frame->wpAny M A (passOn "comprehension.variables-let-go" x cenv':Sem Value) (λ _ _=>False) E { s' with heap:=h' }:=by cases use<;>exact hr
  obtain⟨m,hn,hr⟩:=hr';exact wpAny_bind (wpAny_holding (wpAny_comp_letGo (cenv:={ cenv with scope:=relabel scope env }) hkind _ s' m hv hn λ h' m' _ hs'=>wpAny_mono (hr h' hs' _ rfl) (λ _ _ f=>f.elim) λ _ _ y=>y))
end
section
variable {M:Model}{A:Around}{E:Value->Shared->Prop}{s:Shared}{env:Env}{outer:List Env}{base:Heap}{e L L':Addr}{Z:Obj->Prop}
theorem aeF {fl:Value}{Q:Unit->Shared->Prop}(hZ:Steady Z)(hfr:A.frames=some (env::outer))(hf:env.frame=some L)(hfl:(fl == rawInt L)=false)
  (hkb:base.StaysIn s.heap) (hen:base.get? e=none) (hl:s.heap.FunFrames base (env::outer)) (ht:TracedZ s.heap base e Z fl)
  (hQ:∀ h',HeldZ base (env::outer) e Z L h'->s.heap.UpToSlots h'->Q () { s with heap:=h' }):wpAny M A (noteFrame (.ref e) env) Q E s:=by
 obtain⟨oe,vs,T,oT,ts,he,hz,hd,h1,hnT,hTe,hT,hdT,h3⟩:=ht;unfold noteFrame
 simp only[hf]
 refine wpAny_bind (wpAny_field he hd h1 ?_);rw[if_pos (show(Value.ref T != Value.none)=true from by simp)];refine wpAny_bind (wpAny_field hT hdT h3 ?_);rw[if_neg (by rw[hfl];exact Bool.false_ne_true)];refine wpAny_bind (wpAny_setField hT hdT (Array.getElem?_eq_some_iff.mp h3).1 ?_)
 have other:∀ b,b≠T->(s.heap.update T (Obj.mapFields (·.setIfInBounds 3 Value.none))).get? b=s.heap.get? b:=λ b hb=>Heap.get?_update_other _ _ (Ne.symm hb)
 have noRecord:∀ b o,s.heap.get? b=some o->(∀ vs,o.data≠.fields vs)->b≠T:=λ b o hb hnf q=>by
  rw[q,hT]at hb;injection hb with hb;subst hb;exact hnf ts hdT
 refine wpAny_entryZ hZ hfr (hl.of_keeps λ b o hb hnf=>⟨o,(other b (noRecord b o hb hnf)).trans hb,rfl⟩) hf ((other e (Ne.symm hTe)).trans he)
  (λ b o hbo=>(other b λ q=>by rw[q,hnT]at hbo;cases hbo).trans (hkb b o hbo)) hen hd (Array.getElem?_eq_some_iff.mp h1).1 hz λ h' hN=>?_
 obtain⟨x1,x2,x3,x4⟩:=hN;exact hQ h' ⟨x1,hen,x2,x3⟩ λ b o hb hnf=>x4 b o ((other b (noRecord b o hb hnf)).trans hb) hnf
theorem Sky.held {Q:Unit->Shared->Prop}(hZ:Steady Z)(hfr:A.frames=some (env::outer))(hf:env.frame=some L)(x:L2.Sky base (env::outer) e Z L' s.heap)
  (hQ:∀ h',HeldZ base (env::outer) e Z L h'->s.heap.UpToSlots h'->Q () { s with heap:=h' }):wpAny M A (noteFrame (.ref e) env) Q E s:=by
 rcases x with ⟨hB,hn,hl,oe,vs,he,hz,hd,h1⟩ | fl | hh
 ·exact look_newZ hZ hfr hl hf he hB hn hd h1 hz hQ
 ·exact looks_onZ hZ hfr hf fl hQ
 ·by_cases hL:L'=L
  ·subst hL
   exact againZ hf hh.2.2.2 (hQ s.heap hh (Heap.UpToSlots.refl _))
  ·obtain⟨f1,f2,f3,f4⟩:=hh;refine aeF hZ hfr hf ?_ f1 f2 f3 f4 hQ
   simp[rawInt]
   intro h;exact hL (Int.ofNat.inj h)
end
theorem rM {B h h2:Heap}{C:Addr}(sb:Heap.SameBut C h h2):∀ {l:List Env},h.FunFrames B l->C∉frs l->h2.FunFrames (W.hideAll B [C]) l
 | [],_,_=>trivial
 | env::l,⟨hk,⟨L,o,hf,hn,ho,hd⟩,hr⟩,hC=>by
  have hL:L≠C:=λ z=>hC (by subst z;exact List.mem_filterMap.mpr ⟨env,List.mem_cons_self,hf⟩)
  refine⟨hk,⟨L,o,hf,?_,(sb.2 L hL).trans ho,hd⟩,rM sb hr λ z=>hC ?_⟩
  ·cases q:(W.hideAll B [C]).get? L with
   | none=>rfl
   | some o'=>rw[W.of_hideAll _ q]at hn;cases hn
  ·obtain⟨e,he,q⟩:=List.mem_filterMap.mp z
   exact List.mem_filterMap.mpr ⟨e,List.mem_cons_of_mem _ he,q⟩
theorem ahu {B h h2:Heap}{C e L:Addr}{l:List Env}{Z:Obj->Prop}(x:HeldZ B l e Z L h)(sb:Heap.SameBut C h h2)(hC:C∉frs l){m:Str->Option Value}(hn:h.Ns C m):HeldZ (W.hideAll B [C]) l e Z L h2:=by
 obtain⟨st,hen,hl,oe,vs,T,oT,ts,he,hz,hd,h1,hnT,hTe,hT,hdT,h3⟩:=x
 obtain⟨oc,es,ep,hc,hcd,_⟩:=hn
 have nC:∀ b o xs,h.get? b=some o->o.data=.fields xs->b≠C:=λ b o xs q d z=>by
  subst z
  rw[hc]at q;cases q
  rw[hcd]at d;cases d
 have none_:∀ b,B.get? b=none->(W.hideAll B [C]).get? b=none:=λ b q=>by
  cases w:(W.hideAll B [C]).get? b with
  | none=>rfl
  | some o'=>rw[W.of_hideAll _ w]at q;cases q
 refine⟨λ b o q=>?_,none_ _ hen,rM sb hl hC,oe,vs,T,oT,ts,(sb.2 e (nC e oe vs he hd)).trans he,hz,hd,h1,none_ _ hnT,hTe,(sb.2 T (nC T oT ts hT hdT)).trans hT,hdT,h3⟩
 have hb:b≠C:=λ z=>by
  subst z
  rw[W.hideAll_none [b] (List.mem_cons_self)]at q;cases q
 exact(sb.2 b hb).trans (st b o (W.of_hideAll _ q))
theorem XE.out {X:Cx}{pins:List (Addr×Obj)}{σ:L2.St}{H3:Hp}{s3 s':Shared}{scope:Scope}{cl:List (Str×Addr)}{fp:List Addr}{W:WX}{u:Value}{acc:Value}{use:Option (Value->Sem Unit)}{Qf:Value->Shared->Prop}
  (I3:L2.Inv X pins σ H3 s3) (f3:∀ b∈fp,FpOk X pins H3 b/\b < s3.heap.objs.size) (hs:X.stack=X.env::X.outer) (hf:X.env.frame=some X.env.locals) (tk:Takes X W) (hW:∀ c d σ σ' H,W c d σ H->W c d σ' H)
  (x:XE (X.blk s3 H3 scope (compEnvC scope cl s3.heap.objs.size X.env) fp) W u s') :
  notedBy (model X.prog X.w) X.A (compEnvC scope cl s3.heap.objs.size X.env) (λ e s''=>postF X.xe X.env.frame (model X.prog X.w) X.A use Qf acc s3.heap.objs.size (.error e) s'') u s':=by
 obtain⟨a,B,sI,pinsZ,σ',H',cls,d,rfl,I',nb,up,sky,na,os,ag,w⟩:=x
 have J:L2.Inv X pins σ H' sI:=I3.call' (ch:=fp) I'.os I'.base I'.hok I'.bare λ b hb=>⟨(f3 b hb).1.2.2.2.1,(f3 b hb).1.2.1,(f3 b hb).1.2.2.2.2.1,(f3 b hb).1.2.2.2.2.2⟩
 have nC:H' s3.heap.objs.size=none:=I'.free
 obtain⟨m,hn,_⟩:=I'.loc
 have hn:sI.heap.Ns s3.heap.objs.size m:=hn
 have fC:=I3.fpOk (Nat.le_refl _) nC
 have hfrs:X.A.frames=some (X.env::X.outer):=by rw[I3.ok.frames,hs]
 have sky:Sky B X.stack a (Zc cls d) s3.heap.objs.size s'.heap:=sky
 have nst:s3.heap.objs.size∉frs X.stack:=λ z=>by
  rw[hs]at z;obtain⟨e,he,q⟩:=List.mem_filterMap.mp z;rcases List.mem_cons.mp he with rfl | he
  ·rw[hf]at q;exact fC.2.1 (Option.some.inj q).symm
  ·exact fC.2.2.1 (List.mem_filterMap.mpr ⟨e,he,q⟩)
 rw[hs]at sky;show wpAny _ _ (noteFrame (.ref a) (compEnvC scope cl s3.heap.objs.size X.env)) _ _ _;rw[vh (env:=X.env) (env':=compEnvC scope cl s3.heap.objs.size X.env) rfl];refine Sky.held Zc.steady hfrs hf sky λ h1 hh up1=>?_
 have hn1:h1.Ns s3.heap.objs.size m:=up1.ns (up.ns hn)
 have nst':s3.heap.objs.size∉frs (X.env::X.outer):=by rw[←hs];exact nst
 have go:∃ m,h1.Ns s3.heap.objs.size m/\∀ h',Heap.SameBut s3.heap.objs.size h1 h'->∀ cenv:Env,cenv.frame=X.env.frame->wpAny (model X.prog X.w) X.A (passOn "comprehension.variables-let-go" (.ref a) cenv:Sem Value) (λ _ _=>False) X.xe { s' with heap:=h' }:=by
  refine⟨m,hn1,λ h2 sb cenv hc=>?_⟩
  have hh2:=ahu hh sb nst' hn1
  unfold PySem.passOn
  have tr:=hh2.2.2.2
  obtain⟨oe,vs,T,oT,ts,he,hz,hd,e1,_⟩:=tr;refine wpAny_bind (wpAny_field he hd e1 ?_);rw[if_neg (by simp)];rw[hc,hf];refine wpAny_bind (setFlight_onZ hh2 λ h3 hh3 up3=>wpAny_throw ?_);refine tk _ _ ⟨a,PySem.W.hideAll B [s3.heap.objs.size],{ sI with heap:=PySem.W.hideAll sI.heap [s3.heap.objs.size] },pins,σ,H',cls,d,rfl,?_,λ b o e hb=>?_,λ b o e hd=>?_,?_,na,os,ag,hW _ _ _ _ _ w⟩
  ·exact J.turned (t':=sI.toks) (λ b o hb e=>PySem.W.hideAll_get _ e (by simpa using hb)) fC.1 fC.2.1 fC.2.2.2.1 fC.2.2.2.2.1 fC.2.2.2.2.2
  ·have hbC:b≠s3.heap.objs.size:=λ z=>by
    rw[z]at e
    have e:(PySem.W.hideAll sI.heap [s3.heap.objs.size]).get? s3.heap.objs.size=some o:=e
    rw[PySem.W.hideAll_none [s3.heap.objs.size] List.mem_cons_self]at e;cases e
   exact PySem.W.hideAll_get _ (nb b o (PySem.W.of_hideAll _ e) hb) (by simpa using hbC)
  ·have hbC:b≠s3.heap.objs.size:=λ z=>by
    rw[z]at e
    have e:(PySem.W.hideAll sI.heap [s3.heap.objs.size]).get? s3.heap.objs.size=some o:=e
    rw[PySem.W.hideAll_none [s3.heap.objs.size] List.mem_cons_self]at e;cases e
   obtain⟨l1,q1⟩:=up b o (PySem.W.of_hideAll _ e) hd;obtain⟨l2,q2⟩:=up1 b _ q1 hd;obtain⟨l3,q3⟩:=up3 b _ ((sb.2 b hbC).trans q2) hd;exact⟨l3,q3⟩
  ·rw[hs];exact .inr (.inr hh3)
 cases use<;>exact go
end VS
set_option maxHeartbeats 2000000
namespace L2
open PySem PySem.Spec PyProof.Rows
section
variable {X:Cx}{W:WX}
abbrev Cx.blkR (X:Cx)(W:WX)(s:Shared)(H:Hp)(scope:Scope)(cenv:Env)(fp:List Addr):Cx:=(X.blk s H scope cenv fp).wish (XE (X.blk s H scope cenv fp) W)
theorem takes_blkR {s:Shared}{H:Hp}{scope:Scope}{cenv:Env}{fp:List Addr}:Takes (X.blkR W s H scope cenv fp) W:=λ u s' ⟨a,B,sI,pins,σ,H',cls,d,e,I,nb,up,sky,na,os,ag,w⟩ =>
 ⟨a,B,sI,pins,σ,H',cls,d,e,I.unwish,nb,up,sky,na,os,ag,w⟩
theorem lc_coreR {pins:List (Addr×Obj)}{s:Shared}{σ:St}{H:Hp}{Q:VK}{elt tg iter:Expr}{ifs:List Expr}{scope:Scope}{own:List (Str×Nat)}{pos pos':Pos}{wi:TI}{g:TG}{tt:TT}{te:TE}{use:Option (Value->Sem Unit)}{Qf:Value->Shared->Prop}
  (hst:X.stack=X.env::X.outer) (hfr:X.env.frame=some X.env.locals) (tk:Takes X W) (hW:∀ c d σ σ' H,W c d σ H->W c d σ' H)
  (hc:X.calm=true) (hN:X.N.Nodup) (I:Inv X pins σ H s) (hi:PI X tg iter wi) (ok:BlkOk X.N X.env.scope scope own)
  (hg:∀ (s:Shared) (H:Hp) (C:Addr) (cl:List (Str×Addr)) (fp:List Addr),PG (X.blk s H scope (compEnvC scope cl C X.env) fp) tg g) (ht:∀ (s:Shared) (H:Hp) (C:Addr) (cl:List (Str×Addr)) (fp:List Addr),PTs (X.blk s H scope (compEnvC scope cl C X.env) fp) ifs tt)
  (he:∀ (s:Shared) (H:Hp) (C:Addr) (cl:List (Str×Addr)) (fp:List Addr),PE (X.blkR W s H scope (compEnvC scope cl C X.env) fp) elt te) (hs:∀ x,foldedSetIterable iter X.env x=pure x)
  (h:tLc wi g tt te (own.map (·.2)) σ H Q)
  (hRR:∀ D C s' m H',Inv X pins σ H' s'->Q (.ref D) H'->s'.heap.Ns C m->FpOk X pins H' C->VS.postF X.xe X.env.frame (model X.prog X.w) X.A use Qf (.ref D) C (.ok .next) s') :
  wpAny (model X.prog X.w) X.A (comprehension (.ListComp elt [⟨tg,iter,ifs,0⟩] scope pos) scope X.env pos' (newList []) false (eval iter X.env) use) Qf X.xe s:=by
 have hfree:∀ y∈scope.names,y.2=.free->∃ c,X.env.cells.lookup y.1=some c:=λ y hy e=>(ok.free y hy e).elim (λ k=>I.ok.has _ (.inl k)) λ k=>I.ok.has _ (.inr k)
 refine VS.aaW (use:=use) rfl hs (closure_ok hfree) ok.kind (λ y hy e=>by rw[ok.uniq y hy,e]) (thn (hi.run pins s σ H _ I h) λ xv s1 hx=>thn hx λ itv s2 h2=>?_);obtain⟨it,fp,tn,J,H2,e,I2,T,st2,f2,q⟩:=h2
 subst e
 refine wpAny_newObj_type (newEnv_comp ?_) (by show 0<=sizeLine;decide)
 generalize hD:s2.heap.objs.size=D
 have hDn:H2 D=none:=I2.hok.fresh (Nat.le_of_eq hD)
 obtain⟨W0,⟨m0,w0⟩,turn⟩:=q D hDn
 generalize hs3:({ s2 with heap:=s2.heap.push { cls:=.type "list",data:=.seq ([]:List Value).toArray } }:Shared)=s3
 have I3:Inv X pins σ (upd H2 D (.lst [])) s3:=by
  rw[←hs3];refine I2.laid (t':=s2.toks) (λ b o e=>Heap.get?_push_of_some _ e) (Nat.le_of_eq hD) ⟨Nat.zero_le _,[],0,.nil,?_⟩;rw[←hD];exact Heap.get?_push_size _ rfl
 have h3:s3.heap=s2.heap.push { cls:=.type "list",data:=.seq ([]:List Value).toArray }:=by rw[←hs3]
 have sz:∀ b∈fp,b < s2.heap.objs.size:=λ b hb=>let ⟨_,e,_⟩:=T.obj _ _ st2 b hb;Heap.lt_size e
 have f3:∀ b∈fp,FpOk X pins (upd H2 D (.lst [])) b/\b < s3.heap.objs.size:=λ b hb =>
  ⟨⟨by rw[upd_ne (by rw[←hD];exact Nat.ne_of_lt (sz b hb))];exact(f2 b hb).1,(f2 b hb).2⟩,by rw[h3,Heap.size_push];exact Nat.lt_succ_of_lt (sz b hb)⟩
 have st3:tn 0 s3.heap:=T.keep _ _ _ st2 λ b _ o e=>by rw[h3];exact Heap.get?_push_of_some _ e
 have I4:=block_start I3 ok hN f3
 have pg:=hg s3 (upd H2 D (.lst [])) s3.heap.objs.size (cellsFrom (s3.heap.objs.size+1) scope.names (cloFrom X.env.cells scope.names [])) fp
 have pt:=ht s3 (upd H2 D (.lst [])) s3.heap.objs.size (cellsFrom (s3.heap.objs.size+1) scope.names (cloFrom X.env.cells scope.names [])) fp
 have pe:=he s3 (upd H2 D (.lst [])) s3.heap.objs.size (cellsFrom (s3.heap.objs.size+1) scope.names (cloFrom X.env.cells scope.names [])) fp
 have out:∀ u s',XE (X.blk s3 (upd H2 D (.lst [])) scope (compEnvC scope (cellsFrom (s3.heap.objs.size+1) scope.names (cloFrom X.env.cells scope.names [])) s3.heap.objs.size X.env) fp) W u s'->notedBy (model X.prog X.w) X.A (compEnvC scope (cellsFrom (s3.heap.objs.size+1) scope.names (cloFrom X.env.cells scope.names [])) s3.heap.objs.size X.env) (λ e s''=>VS.postF X.xe X.env.frame (model X.prog X.w) X.A use Qf (.ref D) s3.heap.objs.size (.error e) s'') u s' :=
  λ u s' x=>VS.XE.out (acc:=.ref D) (use:=use) (Qf:=Qf) I3 f3 hst hfr tk hW x
 show codeAny _ _ (.compStart (.ListComp elt [⟨tg,iter,ifs,0⟩] scope pos) 0 (.ref it) (.ref D) (compEnvC scope (cellsFrom (s3.heap.objs.size+1) scope.names (cloFrom X.env.cells scope.names [])) s3.heap.objs.size X.env)) (VS.postF X.xe X.env.frame (model X.prog X.w) X.A use Qf (.ref D) s3.heap.objs.size) { s3 with heap:=pushCells (s3.heap.push { cls:=.type "dict",data:=.dict #[] }) scope.names }
 have nfp:∀ b∈fp,(upd H2 D (.lst [])) b=none:=λ b hb=>(f3 b hb).1.1
 generalize hce:compEnvC scope (cellsFrom (s3.heap.objs.size+1) scope.names (cloFrom X.env.cells scope.names [])) s3.heap.objs.size X.env=ce at I4 pg pt pe out ⊢
 have cL:ce.locals=s3.heap.objs.size:=by subst hce;rfl
 generalize hH3:upd H2 D (.lst [])=H3 at I3 I4 pg pt pe w0 nfp f3 out
 generalize hs4:({ s3 with heap:=pushCells (s3.heap.push { cls:=.type "dict",data:=.dict #[] }) scope.names }:Shared)=s4 at I4 ⊢
 have st4:tn 0 s4.heap:=T.keep _ _ _ st3 λ b _ o e=>by rw[←hs4];exact pushCells_keeps _ _ _ _ (Heap.get?_push_of_some _ e)
 have stat:∀ {σ':St} {H':Hp} {s':Shared},Inv (X.blk s3 H3 scope ce fp) [] σ' H' s'->(∀ b∈fp,H' b=none)->∀ b∈fp,FpOk (X.blk s3 H3 scope ce fp) [] H' b:=λ {σ' H' s'} I' hn b hb =>
  ⟨hn b hb,(I'.ok.exf b hb).1,I'.ok.exfs b hb,.inl hb,λ x c e=>(I'.ok.exf b hb).2 x c e,λ p hp=>absurd (show p∈([]:List (Addr×Obj))++[] from hp) (by simp)⟩
 have loop:codeAny (model X.prog X.w) X.A (.compLoop (.ListComp elt [⟨tg,iter,ifs,0⟩] scope pos) 0 (.ref it) (.ref D) ce) (VS.postF X.xe X.env.frame (model X.prog X.w) X.A use Qf (.ref D) s3.heap.objs.size) s4:=by
  refine compLoop_any (λ n s'=>∃ i H',Inv (X.blk s3 H3 scope ce fp) [] (wipe σ (own.map (·.2))) H' s'/\tn i s'.heap/\(∀ b∈fp,H' b=none)/\W0 i n H') ?_ m0 ⟨0,H3,I4,st4,nfp,w0⟩;rintro n s5 ⟨i,H5,I5,st5,n5,w5⟩;rcases turn i n H5 w5 with ⟨stop,qq⟩ | ⟨go,Nx,hNx,step⟩
  ·refine thnF (T.done (X.blk s3 H3 scope ce fp) rfl rfl rfl hc i [] s5 _ H5 (λ _ _=>False) I5 (stat I5 n5) st5 stop) λ r s6 ⟨hr,I6⟩=>?_
   subst hr
   have I7:Inv X pins σ H5 s6:=I3.call' (ch:=fp) I6.os I6.base I6.hok I6.bare λ b hb=>⟨(f3 b hb).1.2.2.2.1,(f3 b hb).1.2.1,(f3 b hb).1.2.2.2.2.1,(f3 b hb).1.2.2.2.2.2⟩
   have nC:H5 s3.heap.objs.size=none:=cL ▸ (show H5 ce.locals=none from I6.free)
   obtain⟨m,hn,_⟩:=I6.loc
   have hn:s6.heap.Ns ce.locals m:=hn
   rw[cL]at hn;exact hRR D s3.heap.objs.size s6 m H5 I7 qq hn (I3.fpOk (Nat.le_refl _) nC)
  ·refine thnF (T.item (X.blk s3 H3 scope ce fp) rfl rfl rfl hc i [] s5 _ H5 (λ _ _=>False) I5 (stat I5 n5) st5 go) λ r s6 ⟨u,hr,h6⟩=>?_
   subst hr
   refine thnF h6 λ _ s7 ⟨x,H7,I7,r7,y7,st7,n7⟩=>?_
   have I7':=I7.pinned (stat I7 n7) (T.obj _ _ st7)
   refine thnF (pg.run _ s7 _ H7 x u _ I7' r7 (step x H7 y7)) λ _ s8 ⟨σ8,H8,I8,hw8,q8⟩=>?_;refine thnF (pt.run _ s8 σ8 H8 _ I8 q8) λ b s9 ⟨H9,I9,q9⟩=>?_
   have fin:∀ {s':Shared} {H':Hp},Inv (X.blk s3 H3 scope ce fp) ([]++pinsAt fp s7.heap) σ8 H' s'->Nx H'->∃ m,m < n/\∃ i H',Inv (X.blk s3 H3 scope ce fp) [] (wipe σ (own.map (·.2))) H' s'/\tn i s'.heap/\(∀ b∈fp,H' b=none)/\W0 i m H':=λ {s' H'} I' nx=>by
    obtain⟨m',hm,w'⟩:=hNx H' nx
    have pin':∀ b∈fp,∀ o,s7.heap.get? b=some o->s'.heap.get? b=some o/\H' b=none:=λ b hb o e =>
     let z:=I'.pin (b,o) (List.mem_append_right _ (List.mem_append_right _ (mem_pinsAt hb e)))
     ⟨z.1,z.2.1⟩
    have hl:(wipe σ (own.map (·.2))).length=σ8.length:=by rw[←hw8,wipe_length]
    refine⟨m',hm,i+1,H',(I'.unpinned (pins:=[])).weak hl (λ j v e=>?_),T.keep _ _ _ st7 λ b hb o e=>(pin' b hb o e).1,λ b hb=>?_,w'⟩
    ·rw[←hw8]at e;exact(wipe_some e).1
    ·obtain⟨o,e,_⟩:=T.obj _ _ st7 b hb;exact(pin' b hb o e).2
   cases b with
   | false =>
    simp only[Bool.false_eq_true,if_false]at q9 ⊢
    exact fin I9 q9
   | true =>
    simp only[if_true]at q9 ⊢
    refine wpAny_mono (pe.run _ s9 σ8 H9 _ (I9.wish _) q9) (λ z s10 hz=>?_) λ u s10 x=>out u s10 x;obtain⟨yv,H10,I10,r10,acc,hD10,hz10,nx⟩:=hz;exact app_ok (X:=X.blk s3 H3 scope ce fp) I10.unwish hD10 hz10 r10 λ s11 I11=>fin I11 nx
 exact codeAny_compStart_list loop (T.self X.A 0 _ _ _ st4 loop)
end
end L2
namespace VS
open PySem PySem.Spec PyProof PyProof.Rows L2
def lcGoR (vs:List Nat)(f:D->LS->Option LS)(gt:LS->R Bool)(ge:LS->R D):List D->List D->LS->R S
 | [],acc,L=>.ok (.ol acc) L
 | d::ds,acc,L=>match f d L with
  | none=>.stuck
  | some L1=>match gt L1 with
   | .ok b L2=>if b=true then(match ge L2 with
     | .ok y L3=>if acc.length < sizeLine then lcGoR vs f gt ge ds (acc++[y]) (wipeL L3 vs) else .stuck
     | .err k L3=>.err k (wipeL L3 vs)
     | .stuck=>.stuck) else lcGoR vs f gt ge ds acc (wipeL L2 vs)
   | _=>.stuck
def gLcR (vs:List Nat)(gi:LS->R (List D))(f:D->LS->Option LS)(gt:LS->R Bool)(ge:LS->R D):LS->R S:=λ L=>(gi L).bind λ ds L1=>lcGoR vs f gt ge ds [] (wipeL L1 vs)
abbrev Ct.blkR (c:Ct)(scope:Scope)(b:Bk):Ct:={ c with X:=c.X.blkR c.W b.s b.H scope (compEnvC scope b.cl b.C c.X.env) b.fp }
section
variable {c:Ct}{n n1 n2 n3:Bool}{scope:Scope}
theorem zU {b:Bk}:Takes (c.blkR scope b).X (c.blkR scope b).W:=takes_blkR
theorem ake {e:Expr}{g:LS->R D}(h:∀ b,JD (c.blkR scope b) n e g):∃ t,(∀ b,PE (c.blkR scope b).X e t)/\Jdg c n g BD t:=by
 refine⟨λ σ H Q=>∀ b,Classical.choose (h b) σ H Q,λ b=>⟨λ pins s σ H Q I hw=>(Classical.choose_spec (h b)).1.run pins s σ H Q I (hw b)⟩,?_⟩;intro G F ow σ H L Rr
 have q:=λ b=>(Classical.choose_spec (h b)).2 G F ow σ H L Rr
 cases hr:g L with
 | stuck=>trivial
 | err k L' =>
  intro hw Q b
  have:=q b
  rw[hr]at this;exact this hw Q
 | ok a L' =>
  intro Q hq b
  have:=q b
  rw[hr]at this;exact this Q hq
theorem akf {gi:LS->R (List D)}{f:D->LS->Option LS}{gt:LS->R Bool}{ge:LS->R D}{wi:TI}{g:TG}{tt:TT}{te:TE}{vs ws:List Nat}(hW:∀ k d σ σ' H,c.W k d σ H->c.W k d σ' H)(hi:Jdg c n1 gi (BI c.B) wi)
  (hg:∀ G F ow σ H L d v L',c.Rl G F ow σ H L->Dq c.X.K F v d->f d L=some L'->∀ Q:L2.St->Hp->Prop,(∀ σ',OutOf ws σ σ'->c.Rl G F ow σ' H L'->Q σ' H)->g v σ H Q) (hws:∀ k∈ws,k∈vs) (hp:∀ k∈vs,c.free k)
  (ht:Jdg c.low n2 gt BB tt) (he:Jdg c n3 ge BD te):Jdg c (n1&&(n2&&n3)) (gLcR vs gi f gt ge) (BE c.ca) (tLc wi g tt te vs):=by
 have hpn:∀ (k:Nat) (v:V),(pinOf c.pb c.v0)[k]?=some (some v)->k∉vs:=λ k v h hk=>hp k hk (lO h).1
 intro G F0 ow σ H0 L0 Rr
 refine(hi G F0 ow σ H0 L0 Rr).bind (t2:=λ J H1 (Q:VK)=>∀ D,H1 D=none->∃ W:Nat->Nat->Hp->Prop,(∃ m,W 0 m (upd H1 D (.lst [])))/\∀ i m H,W i m H ->
  (J.stop i H/\Q (V.ref D) H)∨(J.go i H/\∃ Nx:Hp->Prop,(∀ H',Nx H'->∃ m',m' < m/\W (i+1) m' H')/\∀ x H',J.yld i H x H'->g x (L2.wipe σ vs) H' λ σ2 H2=>L2.wipe σ2 vs=L2.wipe σ vs/\tt σ2 H2 λ b H3 =>
   if b=true then te σ2 H3 λ y H4=>∃ acc,H4 D=some (.lst acc)/\acc.length < sizeLine/\Nx (upd H4 D (.lst (acc++[y]))) else Nx H3)) λ ds L1 J H1 F1 ow1 _ e1 s1 R1 b1=>?_
 have key:∀ r,lcGoR vs f gt ge ds [] (wipeL L1 vs)=r->r≠.stuck->∀ Q:VK,(∀ s Lf,r=.ok s Lf->∀ v H' F' ow',Same F1 F'->((n2&&n3)=true->Same H1 H')->c.Rl G F' ow' σ H' Lf->BE c.ca c.X.K F' H' ow' s v->Q v H') ->
   (∀ k Lf,r=.err k Lf->∀ H' F' ow',Same F1 F'->c.Rl G F' ow' σ H' Lf->c.W (.ref (c.ca k)) none σ H')->∀ D,H1 D=none->∃ W:Nat->Nat->Hp->Prop,(∃ m,W 0 m (upd H1 D (.lst [])))/\∀ i m H,W i m H ->
  (J.stop i H/\Q (V.ref D) H)∨(J.go i H/\∃ Nx:Hp->Prop,(∀ H',Nx H'->∃ m',m' < m/\W (i+1) m' H')/\∀ x H',J.yld i H x H'->g x (L2.wipe σ vs) H' λ σ2 H2=>L2.wipe σ2 vs=L2.wipe σ vs/\tt σ2 H2 λ b H3 =>
   if b=true then te σ2 H3 λ y H4=>∃ acc,H4 D=some (.lst acc)/\acc.length < sizeLine/\Nx (upd H4 D (.lst (acc++[y]))) else Nx H3):=by
  intro r hr hns Q q qe D hD
  have gD:G D=none:=R1.exG.free hD
  have hB:c.B D=none:=R1.exB.free hD
  refine⟨λ i m H=>m=ds.length - i/\i<=ds.length/\∃ F' ow' L' acc da,Same F1 F'/\((n2&&n3)=true->Same H1 H)/\c.Rl (upd G D (.lst acc)) F' ow' (L2.wipe σ vs) H L'/\DqA c.X.K F' acc da/\lcGoR vs f gt ge (ds.drop i) da L'=r/\∀ (k:Nat) (s':S),L'[k]?=some (some s')->k∉vs,
   ⟨ds.length,rfl,Nat.zero_le _,F1,ow1,wipeL L1 vs,[],[],Same.refl F1,λ _=>eX hD,(R1.wipe hpn).aside hD,.nil,hr,λ k s' h=>(iD h).2⟩,?_⟩
  rintro i m H ⟨rfl,hi',F2,ow2,LB,acc,da,e2,s2,R2,hacc,hgo,hno⟩;obtain⟨k1,k2⟩:=(ItOk.up e2 b1) i H R2.exF R2.exB
  by_cases hlt:i < ds.length
  ·obtain⟨k3,k4⟩:=k2 _ (List.getElem?_eq_getElem hlt);rw[List.drop_eq_getElem_cons hlt]at hgo
   refine .inr ⟨k3,λ H'=>∃ F' ow' L' acc da,Same F1 F'/\((n2&&n3)=true->Same H1 H')/\c.Rl (upd G D (.lst acc)) F' ow' (L2.wipe σ vs) H' L'/\DqA c.X.K F' acc da/\lcGoR vs f gt ge (ds.drop (i+1)) da L'=r/\∀ (k:Nat) (s':S),L'[k]?=some (some s')->k∉vs,
    λ H' w=>⟨ds.length - (i+1),by omega,rfl,hlt,w⟩,λ x H' y=>?_⟩
   have step:∀ {F3 H3:Hp},Same F2 F3->Same H H3->c.Rl (upd G D (.lst acc)) F3 ow2 (L2.wipe σ vs) H3 LB->Dq c.X.K F3 x ds[i]->g x (L2.wipe σ vs) H3 λ σ2 H2=>L2.wipe σ2 vs=L2.wipe σ vs/\tt σ2 H2 λ b H3 =>
     if b=true then te σ2 H3 λ y H4=>∃ acc,H4 D=some (.lst acc)/\acc.length < sizeLine/\∃ F' ow' L' acc' da,Same F1 F'/\((n2&&n3)=true->Same H1 (upd H4 D (.lst (acc++[y]))))/\c.Rl (upd G D (.lst acc')) F' ow' (L2.wipe σ vs) (upd H4 D (.lst (acc++[y]))) L'/\DqA c.X.K F' acc' da/\lcGoR vs f gt ge (ds.drop (i+1)) da L'=r/\∀ (k:Nat) (s':S),L'[k]?=some (some s')->k∉vs
     else ∃ F' ow' L' acc da,Same F1 F'/\((n2&&n3)=true->Same H1 H3)/\c.Rl (upd G D (.lst acc)) F' ow' (L2.wipe σ vs) H3 L'/\DqA c.X.K F' acc da/\lcGoR vs f gt ge (ds.drop (i+1)) da L'=r/\∀ (k:Nat) (s':S),L'[k]?=some (some s')->k∉vs:=λ {F3 H3} e3 s3 R3 hx=>by
    unfold lcGoR at hgo
    cases hf:f ds[i] LB with
    | none=>rw[hf]at hgo;exact absurd hgo.symm hns
    | some L3 =>
     rw[hf]at hgo;refine hg _ F3 ow2 _ H3 LB _ x L3 R3 hx hf _ λ σ2 o2 R4=>⟨rH o2 hws,?_⟩
     have wp:=rH o2 hws
     have hgo:(match gt L3 with
      | .ok b L2=>if b=true then(match ge L2 with
        | .ok y L3=>if da.length < sizeLine then lcGoR vs f gt ge (ds.drop (i+1)) (da++[y]) (wipeL L3 vs) else .stuck
        | .err k L3=>.err k (wipeL L3 vs)
        | .stuck=>.stuck) else lcGoR vs f gt ge (ds.drop (i+1)) da (wipeL L2 vs)
      | _=>.stuck)=r:=hgo
     have pt:=ht _ F3 ow2 σ2 H3 L3 R4
     cases hgt:gt L3 with
     | stuck=>rw[hgt]at hgo;exact absurd hgo.symm hns
     | err k L5=>rw[hgt]at hgo;exact absurd hgo.symm hns
     | ok b L5 =>
      rw[hgt]at hgo pt;refine pt _ λ b' H5 F5 ow5 e5 s5 R5 q5=>?_
      have q5:b'=b:=q5
      subst q5
      cases b' with
      | false =>
       refine⟨F5,ow5,wipeL L5 vs,acc,da,(e2.trans e3).trans e5,λ h=>((s2 h).trans s3).trans (s5 (and_of h).1),?_,(hacc.up e3).up e5,hgo,λ k s' h=>(iD h).2⟩
       have:=R5.wipe (vs:=vs) hpn
       rw[wp]at this;exact this
      | true =>
       have hgo:(match ge L5 with
        | .ok y L3=>if da.length < sizeLine then lcGoR vs f gt ge (ds.drop (i+1)) (da++[y]) (wipeL L3 vs) else .stuck
        | .err k L3=>.err k (wipeL L3 vs)
        | .stuck=>.stuck)=r:=hgo
       have pe:=he _ F5 ow5 σ2 H5 L5 R5
       cases hge:ge L5 with
       | stuck=>rw[hge]at hgo;exact absurd hgo.symm hns
       | err k L6 =>
        rw[hge]at hgo pe;refine pe (λ H6 F6 ow6 e6 R6=>hW _ _ σ _ _ (qe k (wipeL L6 vs) hgo.symm H6 F6 (onAt ow6 D [0]) (((e2.trans e3).trans e5).trans e6) ?_)) _
        have R7:=R6.wipe (vs:=vs) hpn
        rw[wp]at R7
        exact R7.asideOut (σ':=σ) gD hB (wipe_length σ vs).symm (λ k s' h=>(iT (iD h).2).symm) λ k v h=>by
         rw[←iT (σ:=σ) (hpn k v h)];exact R7.pin k v h
       | ok y L6 =>
        rw[hge]at hgo pe;refine pe _ λ v H6 F6 ow6 e6 s6 R6 q6=>?_
        have hgo:(if da.length < sizeLine then lcGoR vs f gt ge (ds.drop (i+1)) (da++[y]) (wipeL L6 vs) else .stuck)=r:=hgo
        by_cases hz:da.length < sizeLine
        ·rw[if_pos hz]at hgo
         have hH:H6 D=some (.lst acc):=R6.exG D _ upd_same
         have hacc6:=(((hacc.up e3).up e5).up e6)
         refine⟨acc,hH,by rw[hacc.len];exact hz,F6,ow6,wipeL L6 vs,acc++[v],da++[y],((e2.trans e3).trans e5).trans e6,λ h=>?_,?_,hacc6.append (.one q6),hgo,λ k s' h=>(iD h).2⟩
         ·have:=(((s2 h).trans s3).trans (s5 (and_of h).1)).trans (s6 (and_of h).2)
          intro a u ha;rw[upd_ne (ne_of_none ha hD)];exact this a u ha
         ·have:=(R6.wipe (vs:=vs) hpn).asideSet (o':=.lst (acc++[v])) hB
          rw[wp]at this;exact this
        ·rw[if_neg hz]at hgo;exact absurd hgo.symm hns
   rcases k4 x H' y with ⟨rfl,hx⟩ | ⟨p,ts,es,he',rfl,hp',rfl,hq⟩
   ·exact step (Same.refl F2) (Same.refl _) R2 hx
   ·obtain⟨w1,w2,w3⟩:=R2.newF (o:=.tup ts) hp';rw[he']at step;exact step w1 w2 w3 (.tup upd_same (hq.up w1))
  ·have hl:ds.length<=i:=Nat.le_of_not_lt hlt
   rw[List.drop_eq_nil_of_le hl]at hgo;refine .inl ⟨k1 hl,q _ _ hgo.symm _ H F2 _ e2 s2 (R2.asideOut (σ':=σ) gD hB (wipe_length σ vs).symm (λ k s' h=>(iT (hno k s' h)).symm) λ k v h=>?_) (.ol (R2.exG D _ upd_same) (qX ..) hacc)⟩;rw[←iT (σ:=σ) (hpn k v h)];exact R2.pin k v h
 cases hr:lcGoR vs f gt ge ds [] (wipeL L1 vs) with
 | stuck=>trivial
 | err k Lf=>exact λ hw Q=>key _ hr (by intro z;cases z) Q (λ _ _ z=>by cases z) (λ _ _ z=>by cases z;exact hw)
 | ok s Lf=>exact λ Q q=>key _ hr (by intro z;cases z) Q (λ _ _ z=>by cases z;exact q) (λ _ _ z=>by cases z)
variable {elt tg iter:Expr}{ifs:List Expr}{own:List (Str×Nat)}{pos spos:Pos}{gi:LS->R (List D)}{f:D->LS->Option LS}{gt:LS->R Bool}{ge:LS->R D}{ws:List Nat}
end
end VS
set_option maxHeartbeats 2000000
namespace L2
open PySem PySem.Spec PyProof.Rows
theorem ps_setLcR {X:Cx}{W:WX}{i:Nat}{y:Str}{py:Pos}{elt tg iter:Expr}{ifs:List Expr}{scope:Scope}{own:List (Str×Nat)}{pos spos:Pos}{wi:TI}{g:TG}{tt:TT}{te:TE}
  (hst:X.stack=X.env::X.outer) (hfr:X.env.frame=some X.env.locals) (tk:Takes X W) (hW:∀ c d σ σ' H,W c d σ H->W c d σ' H) (hc:X.calm=true) (hN:X.N.Nodup) (hy:X.N[i]?=some y) (hyl:X.env.scope.names.lookup y=some .local)
  (hsw:swapsWith (.ListComp elt [⟨tg,iter,ifs,0⟩] scope pos) (some (.Name y py)) spos.line X.env=pure true) (hi:PI X tg iter wi) (ok:BlkOk X.N X.env.scope scope own)
  (hg:∀ (s:Shared) (H:Hp) (C:Addr) (cl:List (Str×Addr)) (fp:List Addr),PG (X.blk s H scope (compEnvC scope cl C X.env) fp) tg g) (ht:∀ (s:Shared) (H:Hp) (C:Addr) (cl:List (Str×Addr)) (fp:List Addr),PTs (X.blk s H scope (compEnvC scope cl C X.env) fp) ifs tt)
  (he:∀ (s:Shared) (H:Hp) (C:Addr) (cl:List (Str×Addr)) (fp:List Addr),PE (X.blkR W s H scope (compEnvC scope cl C X.env) fp) elt te) (hs:∀ x,foldedSetIterable iter X.env x=pure x:=by intro _;rfl) :
  PS X (.Assign [.Name y py] (.ListComp elt [⟨tg,iter,ifs,0⟩] scope pos) spos) (tAsg (tLc wi g tt te (own.map (·.2))) (gName i)):=by
 refine⟨λ pins s σ H D I h=>?_⟩;rw[exec_Assign_Name_used _ _ _ _ hsw];refine wpAny_bind (wpAny_standAt (wpAny_bind ?_));show wpAny _ X.A (do let _ ←comprehension (.ListComp elt [⟨tg,iter,ifs,0⟩] scope pos) scope X.env (firstIterPos [⟨tg,iter,ifs,0⟩] pos) (newList []) false (eval iter X.env) (some (assign (.Name y py) X.env))) _ _ s
 have h:tLc wi g tt te (own.map (·.2)) σ H (λ x H1=>gName i x σ H1 D.nx):=h
 refine wpAny_bind (thn (lc_coreR (Qf:=λ _ s'=>SP X pins D .next s') hst hfr tk hW hc hN I hi ok hg ht he hs h λ L C s' m H' I' q hn f=>?_) λ _ s' hq=>wpAny_pure (wpAny_pure hq));show wpAny _ _ (assign (.Name y py) X.env (.ref L)) _ _ _;refine wpAny_assign_Name (store_ok2 (v:=V.ref L) I' hN hy (.inl hyl) rfl (λ s2 I2 ⟨a,sb,ha⟩=>?_) (.inr hyl));obtain⟨f0,f1,f2,f3,f4,f5⟩:=f
 have haC:C≠a:=ha.elim (λ z=>by rw[z];exact f1) λ z e=>f4 y a z e.symm
 exact⟨m,hn.sameBut sb haC,λ h3 sb3=>⟨_,H',I2.turned (t':=s2.toks) (λ b o hb e=>(sb3.2 b hb).trans e) f0 f1 f3 f4 f5,q⟩⟩
end L2
namespace VS
open PySem PySem.Spec PyProof PyProof.Rows L2
section
variable {c:Ct}{n n1 n2 n3:Bool}{scope:Scope}{elt tg iter:Expr}{ifs:List Expr}{own:List (Str×Nat)}{pos spos:Pos}{gi:LS->R (List D)}{f:D->LS->Option LS}{gt:LS->R Bool}{ge:LS->R D}{ws:List Nat}
theorem zV {i:Nat}{y:Str}{py:Pos}(hst:c.X.stack=c.X.env::c.X.outer)(hef:c.X.env.frame=some c.X.env.locals)(tk:Takes c.X c.W)(hW:∀ k d σ σ' H,c.W k d σ H->c.W k d σ' H)
  (hc:c.X.calm=true) (hN:c.X.N.Nodup) (hy:c.X.N[i]?=some y) (hyl:c.X.env.scope.names.lookup y=some .local) (hfr:c.free i)
  (hsw:swapsWith (.ListComp elt [⟨tg,iter,ifs,0⟩] scope pos) (some (.Name y py)) spos.line c.X.env=pure true) (hi:JI c n1 tg iter gi) (ok:BlkOk c.X.N c.X.env.scope scope own) (hg:∀ b,JG (c.blk scope b) tg ws f) (hws:∀ k∈ws,k∈own.map (·.2)) (hp:∀ k∈own.map (·.2),c.free k)
  (ht:∀ b,JTs (c.blk scope b) n2 ifs gt) (he:∀ b,JD (c.blkR scope b) n3 elt ge) (hs:∀ x,foldedSetIterable iter c.X.env x=pure x:=by intro _;rfl):JS c (.Assign [.Name y py] (.ListComp elt [⟨tg,iter,ifs,0⟩] scope pos) spos) (gAsg i (gLcR (own.map (·.2)) gi f gt ge)):=by
 obtain⟨wi,p1,q1⟩:=hi;obtain⟨tg',p2,q2⟩:=adG hg;obtain⟨tt,p3,q3⟩:=adF ht;obtain⟨te,p4,q4⟩:=ake he;exact⟨_,ps_setLcR hst hef tk hW hc hN hy hyl hsw p1 ok (λ s H C cl fp=>p2 ⟨s,H,C,cl,fp⟩) (λ s H C cl fp=>p3 ⟨s,H,C,cl,fp⟩) (λ s H C cl fp=>p4 ⟨s,H,C,cl,fp⟩) hs,rA hfr (akf hW q1 q2 hws hp q3 q4)⟩
end
end VS
namespace Lw
open PySem PySem.Spec PyProof.Rows L2 VS
def zW:LS->R O:=(gSeq (gIf (gOr (gB (gOp dLt (gUn dLen (gPeek 0)) (gC (.int 1)))) (gB (gOp dGt (gUn dLen (gPeek 0)) (gC (.int 12))))) (gRet (gD (gC (.bool false)))) gNext)
  (gSeq (gFor (λ L=>((gVar 0) L).bind fH) (fName 1) (gIf (gB (gOp dNotIn (gPeek 1) (gC (.str "abcdefghijklmnopqrstuvwxyz")))) (gRet (gD (gC (.bool false)))) gNext))
  (gRet (gD (gC (.bool true))))))
def mJ:LS->R S:=runDef [false] 2 zW
def zX:LS->R O:=(gRet (gLst (gCons (gFz (gUn dList (gFz (gSl (gPeek 0) gNo (gSo (gC (.int 63))))))) (gCons (gC (.int 0)) (gCons (gC (.int 0)) (gCons (gC (.int 1)) (gCons (gC (.int 0)) gNil)))))))
def mK:LS->R S:=runDef [true] 1 zX
def pK:LS->R O:=(gSeq (gSetIx 0 (gC (.int 4)) (gFz (gOp dAdd (gIxP 0 (gC (.int 4))) (gC (.int 1)))))
  (gSeq (gIf (gB (gOp dLe (gIxP 0 (gC (.int 2))) (gC (.int 1)))) (gSeq (gAsg 2 (gD (gC (.int 7))))
  (gSeq (gIf (gB (gOp dLt (gIxP 0 (gC (.int 1))) (gUn dLen (gIxP 0 (gC (.int 0)))))) (gSeq (gAsg 2 (gD (gOp dIx (gIxP 0 (gC (.int 0))) (gIxP 0 (gC (.int 1))))))
  (gSetIx 0 (gC (.int 1)) (gFz (gOp dAdd (gIxP 0 (gC (.int 1))) (gC (.int 1)))))) gNext)
  (gSeq (gSetIx 0 (gC (.int 3)) (gOp dMod (gFz (gOp dAdd (gFz (gOp dAdd (gFz (gOp dMul (gIxP 0 (gC (.int 3))) (gC (.int 48271)))) (gOp dMod (gVar 2) (gC (.int 998244353))))) (gIxP 0 (gC (.int 4))))) (gC (.int 2147483647))))
  (gIf (gB (gOp dGe (gPeek 2) (gOp dPow (gC (.int 10)) (gC (.int 18))))) (gSetIx 0 (gC (.int 2)) (gVar 2)) gNext)))) gNext)
  (gSeq (gIf (gB (gOp dGt (gIxP 0 (gC (.int 2))) (gC (.int 1)))) (gSeq (gAsg 3 (gD (gOp dMod (gIxP 0 (gC (.int 2))) (gVar 1))))
  (gSeq (gSetIx 0 (gC (.int 2)) (gOp dDiv (gIxP 0 (gC (.int 2))) (gVar 1)))
  (gRet (gMove 3)))) gNext)
  (gRet (gD (gOp dMod (gOp dDiv (gOp dMod (gFz (gOp dMul (gIxP 0 (gC (.int 3))) (gC (.int 40692)))) (gC (.int 2147483399))) (gC (.int 3))) (gVar 1)))))))
def az:LS->R S:=runDef Q0 4 pK
def tY:LS->R O:=(gSeq (gAsg 2 (gD (gC (.str "abcdefghijklmnopqrstuvwxyz"))))
  (gSeq (gAsg 3 (gSl (gPeek 1) gNo (gSo (gC (.int 10)))))
  (gSeq (gFor (λ L=>((gCons (gFz (gOp dAdd (gUn dLen (gPeek 0)) (gC (.int 1)))) gNil) L).bind abJ) (fName 4) (gSeq (gIf (gB (gOp dNotIn (gPeek 1) (gPeek 0))) (gRet (gMove 1)) gNext)
  (gAsg 1 (gOp dAdd (gFz (gOp dAdd (gVar 3) (gIxP 2 (gOp dMod (gVar 4) (gC (.int 26)))))) (gIxP 2 (gOp dDiv (gVar 4) (gC (.int 26))))))))
  (gRet (gMove 1)))))
def gW:LS->R S:=runDef Q0 5 tY
def wJ:LS->R O:=(gSeq (gAsg 2 (gD (gC (.str "abcdefghijklmnopqrstuvwxyz"))))
  (gRet (gD (gJoin (gC (.str "")) (gFz (gLc [3] (λ L=>((gCons (gVar 1) gNil) L).bind abJ) (fName 3) gYes (gIxP 2 (gFz (gCall Lw.az [.r 0,.d (gC (.int 26))])))))))))
def cW:LS->R S:=runDef Q0 4 wJ
def vm:LS->R O:=(gSeq (gAsg 2 (gCall Lw.az [.r 0,.d (gC (.int 3))]))
  (gSeq (gAsg 3 (gCall Lw.cW [.r 0,.d (gFz (gOp dAdd (gC (.int 1)) (gFz (gCall Lw.az [.r 0,.d (gC (.int 11))]))))]))
  (gSeq (gAsg 4 (gCall Lw.az [.r 0,.d (gUn dLen (gPeek 3))]))
  (gSeq (gAsg 5 (gLst gNil))
  (gSeq (gFor (λ L=>((gCons (gVar 1) gNil) L).bind abJ) (fName 6) (gSeq (gAsg 7 (gOp dAdd (gFz (gOp dAdd (gFz (gSl (gPeek 3) gNo (gSo (gVar 4)))) (gFz (gCall Lw.cW [.r 0,.d (gC (.int 1))])))) (gFz (gSl (gPeek 3) (gSo (gFz (gOp dAdd (gVar 4) (gC (.int 1))))) gNo))))
  (gSeq (gIf (gB (gOp dEq (gPeek 2) (gC (.int 1)))) (gAsg 7 (gSl (gVar 3) gNo (gSo (gFz (gOp dAdd (gC (.int 1)) (gFz (gCall Lw.az [.r 0,.d (gUn dLen (gPeek 3))]))))))) gNext)
  (gSeq (gIf (gB (gOp dEq (gPeek 2) (gC (.int 2)))) (gAsg 7 (gCall Lw.cW [.r 0,.d (gFz (gOp dAdd (gC (.int 1)) (gFz (gCall Lw.az [.r 0,.d (gC (.int 12))]))))])) gNext)
  (gDrop (gApp 5 (gFz (gCall Lw.gW [.r 5,.d (gVar 7)]))))))))
  (gRet (gMove 5)))))))
def jj:LS->R S:=runDef Q0 8 vm
end Lw
namespace Lw
open PySem VS
def srcS (cells:List Int)(p b st k:Int):S:=.ol [.list (cells.map PyData.int),.int p,.int b,.int st,.int k]
def Src (s:S):Prop:=∃ (cells:List Int) (p b st k:Int),s=srcS cells p b st k/\cells.length<=63/\0<=p/\p<=cells.length/\0<=b/\0<=st/\st < 2147483647
theorem aeG (cells:List Int)(j:Nat)(h:j < cells.length):dIx (.list (cells.map PyData.int)) (.int (j:Int))=some (.int cells[j]):=by
 rw[qH,List.getElem?_map,List.getElem?_eq_getElem h]
 rfl
theorem amz:dPow (.int 10) (.int 18)=some (.int 1000000000000000000):=by
 rw[ajS ⟨by decide,by decide,by decide⟩]
 rfl
theorem vo (cells:List Int)(p b st k n:Int)(o:Option S)(h0:0 < n)(h1:n < 1073741824)(hl:cells.length<=63)(hp0:0<=p)(hp1:p<=cells.length)(hb:0<=b)(hs0:0<=st)(hs1:st < 2147483647) :
  ∃ r s' o2 L,gSeq (gIf (gB (gOp dGt (gIxP 0 (gC (.int 2))) (gC (.int 1)))) (gSeq (gAsg 3 (gD (gOp dMod (gIxP 0 (gC (.int 2))) (gVar 1))))
  (gSeq (gSetIx 0 (gC (.int 2)) (gOp dDiv (gIxP 0 (gC (.int 2))) (gVar 1))) (gRet (gMove 3)))) gNext)
  (gRet (gD (gOp dMod (gOp dDiv (gOp dMod (gFz (gOp dMul (gIxP 0 (gC (.int 3))) (gC (.int 40692)))) (gC (.int 2147483399))) (gC (.int 3))) (gVar 1)))) [some (srcS cells p b st k),some (.d (.int n)),o,none]=.ok (.rt (.d (.int r))) (some s'::o2::L)/\0<=r/\r < n/\Src s':=by
 by_cases c:1 < b
 ·refine⟨b % n,srcS cells p (b / n) st k,some (.d (.int n)),[o,some (.d (.int (b % n)))],?_,Int.emod_nonneg _ (by omega),Int.emod_lt_of_pos _ h0,cells,p,b / n,st,k,rfl,hl,hp0,hp1,Int.ediv_nonneg hb (by omega),hs0,hs1⟩
  simp only[VS.evs,Nat.reduceAdd,Nat.reduceLT,Nat.reduceLeDiff,Nat.reduceSub,Nat.reduceEqDiff,srcS,c,nJ h0,xZ h0 h1,decide_true,if_true]
 ·refine⟨st * 40692 % 2147483399 / 3 % n,srcS cells p b st k,some (.d (.int n)),[o,none],?_,Int.emod_nonneg _ (by omega),Int.emod_lt_of_pos _ h0,cells,p,b,st,k,rfl,hl,hp0,hp1,hb,hs0,hs1⟩
  simp only[VS.evs,Nat.reduceAdd,Nat.reduceLT,Nat.reduceLeDiff,Nat.reduceSub,Nat.reduceEqDiff,srcS,c,decide_false,if_false,Bool.false_eq_true,aaS (show -(2 ^ 64) < st by omega) (show st < 2 ^ 64 by omega),nJ (show(0:Int) < 2147483399 by decide),nJ h0,xZ (show(0:Int) < 3 by decide) (show(3:Int) < 1073741824 by decide)]
theorem ab0 (cells:List Int)(p b st k n:Int)(cell:Int)(hb:0<=b)(hs0:0<=st)(hs1:st < 2147483647):∃ b' st',gSeq (gSetIx 0 (gC (.int 3)) (gOp dMod (gFz (gOp dAdd (gFz (gOp dAdd (gFz (gOp dMul (gIxP 0 (gC (.int 3))) (gC (.int 48271)))) (gOp dMod (gVar 2) (gC (.int 998244353))))) (gIxP 0 (gC (.int 4))))) (gC (.int 2147483647))))
  (gIf (gB (gOp dGe (gPeek 2) (gOp dPow (gC (.int 10)) (gC (.int 18))))) (gSetIx 0 (gC (.int 2)) (gVar 2)) gNext) [some (srcS cells p b st k),some (.d (.int n)),some (.d (.int cell)),none]=.ok .nx [some (srcS cells p b' st' k),some (.d (.int n)),some (.d (.int cell)),none]/\0<=b'/\0<=st'/\st' < 2147483647:=by
 have st0:0<=(st * 48271+cell % 998244353+k) % 2147483647:=Int.emod_nonneg _ (by omega)
 have st1:(st * 48271+cell % 998244353+k) % 2147483647 < 2147483647:=Int.emod_lt_of_pos _ (by omega)
 by_cases c:1000000000000000000<=cell
 ·refine⟨cell,(st * 48271+cell % 998244353+k) % 2147483647,?_,by omega,st0,st1⟩
  simp only[VS.evs,Nat.reduceAdd,Nat.reduceLT,Nat.reduceLeDiff,Nat.reduceSub,Nat.reduceEqDiff,srcS,amz,c,decide_true,if_true,aaS (show -(2 ^ 64) < st by omega) (show st < 2 ^ 64 by omega),nJ (show(0:Int) < 998244353 by decide),nJ (show(0:Int) < 2147483647 by decide)]
 ·refine⟨b,(st * 48271+cell % 998244353+k) % 2147483647,?_,hb,st0,st1⟩
  simp only[VS.evs,Nat.reduceAdd,Nat.reduceLT,Nat.reduceLeDiff,Nat.reduceSub,Nat.reduceEqDiff,srcS,amz,c,decide_false,if_false,Bool.false_eq_true,aaS (show -(2 ^ 64) < st by omega) (show st < 2 ^ 64 by omega),nJ (show(0:Int) < 998244353 by decide),nJ (show(0:Int) < 2147483647 by decide)]
theorem qI {s:S}(h:Src s){n:Int}(h0:0 < n)(h1:n < 1073741824):∃ r s',az [some s,some (.d (.int n))]=.ok (.d (.int r)) [some s',none]/\0<=r/\r < n/\Src s':=by
 obtain⟨cells,p,b,st,k,rfl,hl,hp0,hp1,hb,hs0,hs1⟩:=h;obtain⟨j,rfl⟩:=Int.eq_ofNat_of_zero_le hp0
 have s0:gSetIx 0 (gC (.int 4)) (gFz (gOp dAdd (gIxP 0 (gC (.int 4))) (gC (.int 1)))) [some (srcS cells j b st k),some (.d (.int n)),none,none]=.ok .nx [some (srcS cells j b st (k+1)),some (.d (.int n)),none,none]:=by
  simp only[VS.evs,Nat.reduceAdd,Nat.reduceLT,Nat.reduceLeDiff,Nat.reduceSub,Nat.reduceEqDiff,srcS,if_true]
 by_cases c1:b<=1
 ·by_cases c2:(j:Int) < cells.length
  ·have hj:j < cells.length:=by omega
   obtain⟨b',st',m1,m2,m3,m4⟩:=ab0 cells ((j:Int)+1) b st (k+1) n cells[j] hb hs0 hs1;obtain⟨r,s',o2,L,t1,t2,t3,t4⟩:=vo cells ((j:Int)+1) b' st' (k+1) n (some (.d (.int cells[j]))) h0 h1 hl (by omega) (by omega) m2 m3 m4;refine⟨r,s',?_,t2,t3,t4⟩;unfold az pK;rw[abQ]
   simp only[List.length_cons,List.length_nil,Nat.reduceAdd,Nat.reduceSub,List.replicate_succ,List.replicate_zero,List.cons_append,List.nil_append]
   rw[jw,s0,fV,jw,ev_if]
   have e1:gB (gOp dLe (gIxP 0 (gC (.int 2))) (gC (.int 1))) [some (srcS cells j b st (k+1)),some (.d (.int n)),none,none]=.ok true [some (srcS cells j b st (k+1)),some (.d (.int n)),none,none]:=by
    simp only[VS.evs,Nat.reduceAdd,Nat.reduceLT,Nat.reduceLeDiff,Nat.reduceSub,Nat.reduceEqDiff,srcS,c1,decide_true]
   rw[e1,abO,if_pos rfl,jw]
   have e2:gAsg 2 (gD (gC (.int 7))) [some (srcS cells j b st (k+1)),some (.d (.int n)),none,none]=.ok .nx [some (srcS cells j b st (k+1)),some (.d (.int n)),some (.d (.int 7)),none]:=rfl
   rw[e2,fV,jw]
   have e3:gIf (gB (gOp dLt (gIxP 0 (gC (.int 1))) (gUn dLen (gIxP 0 (gC (.int 0)))))) (gSeq (gAsg 2 (gD (gOp dIx (gIxP 0 (gC (.int 0))) (gIxP 0 (gC (.int 1))))))
     (gSetIx 0 (gC (.int 1)) (gFz (gOp dAdd (gIxP 0 (gC (.int 1))) (gC (.int 1)))))) gNext [some (srcS cells j b st (k+1)),some (.d (.int n)),some (.d (.int 7)),none]=.ok .nx [some (srcS cells ((j:Int)+1) b st (k+1)),some (.d (.int n)),some (.d (.int cells[j])),none]:=by
    simp only[VS.evs,Nat.reduceAdd,Nat.reduceLT,Nat.reduceLeDiff,Nat.reduceSub,Nat.reduceEqDiff,srcS,List.length_map,c2,decide_true,if_true,aeG cells j hj]
   rw[e3,fV,m1,fV,t1]
   rfl
  ·obtain⟨b',st',m1,m2,m3,m4⟩:=ab0 cells j b st (k+1) n 7 hb hs0 hs1;obtain⟨r,s',o2,L,t1,t2,t3,t4⟩:=vo cells j b' st' (k+1) n (some (.d (.int 7))) h0 h1 hl (by omega) (by omega) m2 m3 m4;refine⟨r,s',?_,t2,t3,t4⟩;unfold az pK;rw[abQ]
   simp only[List.length_cons,List.length_nil,Nat.reduceAdd,Nat.reduceSub,List.replicate_succ,List.replicate_zero,List.cons_append,List.nil_append]
   rw[jw,s0,fV,jw,ev_if]
   have e1:gB (gOp dLe (gIxP 0 (gC (.int 2))) (gC (.int 1))) [some (srcS cells j b st (k+1)),some (.d (.int n)),none,none]=.ok true [some (srcS cells j b st (k+1)),some (.d (.int n)),none,none]:=by
    simp only[VS.evs,Nat.reduceAdd,Nat.reduceLT,Nat.reduceLeDiff,Nat.reduceSub,Nat.reduceEqDiff,srcS,c1,decide_true]
   rw[e1,abO,if_pos rfl,jw]
   have e2:gAsg 2 (gD (gC (.int 7))) [some (srcS cells j b st (k+1)),some (.d (.int n)),none,none]=.ok .nx [some (srcS cells j b st (k+1)),some (.d (.int n)),some (.d (.int 7)),none]:=rfl
   rw[e2,fV,jw]
   have e3:gIf (gB (gOp dLt (gIxP 0 (gC (.int 1))) (gUn dLen (gIxP 0 (gC (.int 0)))))) (gSeq (gAsg 2 (gD (gOp dIx (gIxP 0 (gC (.int 0))) (gIxP 0 (gC (.int 1))))))
     (gSetIx 0 (gC (.int 1)) (gFz (gOp dAdd (gIxP 0 (gC (.int 1))) (gC (.int 1)))))) gNext [some (srcS cells j b st (k+1)),some (.d (.int n)),some (.d (.int 7)),none]=.ok .nx [some (srcS cells j b st (k+1)),some (.d (.int n)),some (.d (.int 7)),none]:=by
    simp only[VS.evs,Nat.reduceAdd,Nat.reduceLT,Nat.reduceLeDiff,Nat.reduceSub,Nat.reduceEqDiff,srcS,List.length_map,c2,decide_false,if_false,Bool.false_eq_true]
   rw[e3,fV,m1,fV,t1]
   rfl
 ·obtain⟨r,s',o2,L,t1,t2,t3,t4⟩:=vo cells j b st (k+1) n none h0 h1 hl (by omega) (by omega) hb hs0 hs1;refine⟨r,s',?_,t2,t3,t4⟩;unfold az pK;rw[abQ]
  simp only[List.length_cons,List.length_nil,Nat.reduceAdd,Nat.reduceSub,List.replicate_succ,List.replicate_zero,List.cons_append,List.nil_append]
  rw[jw,s0,fV,jw,ev_if]
  have e1:gB (gOp dLe (gIxP 0 (gC (.int 2))) (gC (.int 1))) [some (srcS cells j b st (k+1)),some (.d (.int n)),none,none]=.ok false [some (srcS cells j b st (k+1)),some (.d (.int n)),none,none]:=by
   simp only[VS.evs,Nat.reduceAdd,Nat.reduceLT,Nat.reduceLeDiff,Nat.reduceSub,Nat.reduceEqDiff,srcS,c1,decide_false]
  rw[e1,abO,if_neg Bool.false_ne_true,adM,fV,t1]
  rfl
def sOf (ws:List Nat):Str:=⟨ws.toArray⟩
theorem uI (ws:List Nat):(sOf ws).cps.toList=ws:=by simp[sOf]
theorem nM (ws:List Nat):(sOf ws).length=ws.length:=by simp[sOf,Str.length]
theorem akg (a b:List Nat):sOf a++sOf b=sOf (a++b):=by
 show(⟨a.toArray++b.toArray⟩:Str)=⟨(a++b).toArray⟩
 simp
theorem akh {a b:List Nat}(h:sOf a=sOf b):a=b:=by
 have:=congrArg (λ s:Str=>s.cps.toList) h
 simpa [sOf] using this
theorem amA (s:Str):s=sOf s.cps.toList:=by
 cases s
 simp[sOf]
def Small (ws:List Nat):Prop:=∀ c∈ws,97<=c/\c<=122
theorem Small.app {a b:List Nat}(h:Small a)(h':Small b):Small (a++b):=λ c hc=>(List.mem_append.mp hc).elim (h c) (h' c)
theorem Small.take {a:List Nat}(n:Nat)(h:Small a):Small (a.take n):=λ c hc=>h c (List.mem_of_mem_take hc)
theorem Small.drop {a:List Nat}(n:Nat)(h:Small a):Small (a.drop n):=λ c hc=>h c (List.mem_of_mem_drop hc)
abbrev abc:Str:="abcdefghijklmnopqrstuvwxyz"
theorem aeH:∀ k∈List.range 26,abc.cps.toList[k]?=some (97+k):=by decide +kernel
theorem aaX:abc.cps.toList.length=26:=by decide +kernel
theorem aeI {r:Int}(h0:0<=r)(h1:r < 26):dIx (.str abc) (.int r)=some (.str (sOf [97+r.toNat])):=by
 obtain⟨k,rfl⟩:=Int.eq_ofNat_of_zero_le h0
 have hk:k < 26:=by omega
 have e:=aeH k (List.mem_range.mpr hk)
 have hl:abc.length<=sizeLine:=by
  have:abc.length=26:=aaX
  rw[this,PySem.sizeLine_eq]
  omega
 have e2:L2.atI abc.cps.toList (k:Int)=some (97+k):=L2.atI_nat e
 show(if abc.length<=sizeLine then(L2.atI abc.cps.toList (k:Int)).map λ k=>PyData.str ⟨#[k]⟩ else none)=_;rw[if_pos hl,e2]
 rfl
theorem aot {j:Int}(h0:0<=j)(h1:j<=100000):-(2 ^ 62)<=j/\j < 2 ^ 62:=by omega
theorem aaY {j:Int}{L:LS}(h0:0<=j)(h1:j<=100000):abJ [.int j] L=.ok (intsD 0 j.toNat) L:=if_pos (aot h0 h1)
theorem aeJ (m:Int):∀ (ds acc:List D) (s:S),Src s->acc.length+ds.length < sizeLine->∃ ws s',lcGo [3] (fName 3) gYes (gIxP 2 (gFz (gCall az [.r 0,.d (gC (.int 26))]))) ds acc [some s,some (.d (.int m)),some (.d (.str abc)),none]
  = .ok (.ol (acc++ws.map λ c=>.str (sOf [c]))) [some s',some (.d (.int m)),some (.d (.str abc)),none]/\ws.length=ds.length/\Small ws/\Src s'
 | [],acc,s,hs,_=>⟨[],s,by rw[abS,List.map_nil,List.append_nil],rfl,(λ c hc=>by cases hc),hs⟩
 | d::ds,acc,s,hs,hl=>by
  obtain⟨r,s1,e,r0,r1,h1⟩:=qI hs (n:=26) (by omega) (by omega);rw[List.length_cons]at hl;obtain⟨ws,s',e2,l2,k2,h2⟩:=aeJ m ds (acc++[.str (sOf [97+r.toNat])]) s1 h1 (by rw[List.length_append,List.length_singleton];omega);refine⟨(97+r.toNat)::ws,s',?_,by rw[List.length_cons,List.length_cons,l2],λ c hc=>?_,h2⟩
  ·have step:gIxP 2 (gFz (gCall az [.r 0,.d (gC (.int 26))])) [some s,some (.d (.int m)),some (.d (.str abc)),some (.d d)]=.ok (.str (sOf [97+r.toNat])) [some s1,some (.d (.int m)),some (.d (.str abc)),some (.d d)]:=by
    simp only[VS.evs,Nat.reduceAdd,Nat.reduceLT,Nat.reduceLeDiff,Nat.reduceSub,Nat.reduceEqDiff,e,aeI r0 r1]
   rw[ag9 (L1:=[some s,some (.d (.int m)),some (.d (.str abc)),some (.d d)]) (L2:=[some s,some (.d (.int m)),some (.d (.str abc)),some (.d d)]) [3] (fName 3) gYes _ d ds acc rfl rfl step (by omega)];rw[show wipeL [some s1,some (.d (.int m)),some (.d (.str abc)),some (.d d)] [3]=[some s1,some (.d (.int m)),some (.d (.str abc)),none] from rfl,e2,List.map_cons,List.append_assoc]
   rfl
  ·rcases List.mem_cons.mp hc with rfl | hc
   ·omega
   ·exact k2 c hc
theorem strs_map (ws:List Nat):strsOf (ws.map λ c=>PyData.str (sOf [c]))=some (ws.map λ c=>sOf [c]):=by
 induction ws with
 | nil=>rfl
 | cons c ws ih =>
  show(strsOf (ws.map λ c=>PyData.str (sOf [c]))).map (sOf [c]::·)=_;rw[ih]
  rfl
theorem zY:∀ l:List (List Nat),TL.joinL [] l=l.flatten
 | []=>rfl
 | [p]=>by simp[TL.joinL]
 | p::q::r=>by
  show p++([]++TL.joinL [] (q::r))=_;rw[List.nil_append,zY (q::r)]
  rfl
theorem acJ:("":Str).cps.toList=[]:=by decide +kernel
theorem acK (ys:List (List Nat)):Txt.join ("":Str) (ys.map sOf)=sOf ys.flatten:=by
 rw[amA (Txt.join _ _),TL.join_eq]
 congr 1
 show TL.tl (Str.join _ _)=_;rw[TL.tl_join,show TL.tl ("":Str)=[] from acJ,zY,List.map_map]
 congr 1
 rw[show(TL.tl∘sOf)=id from funext uI,List.map_id]
theorem yh (ws:List Nat):(ws.map λ c=>[c]).flatten=ws:=by
 induction ws with
 | nil=>rfl
 | cons c ws ih=>rw[List.map_cons,List.flatten_cons,ih];rfl
theorem aaZ (ws:List Nat):((ws.map λ c=>sOf [c]).map (·.length)).sum=ws.length:=by
 induction ws with
 | nil=>rfl
 | cons c ws ih =>
  rw[List.map_cons,List.map_cons,List.sum_cons,ih,nM]
  simp only[List.length_cons,List.length_nil]
  omega
theorem acL {ws:List Nat}(h:ws.length<=100000):dJoin (.str "") (.list (ws.map λ c=>PyData.str (sOf [c])))=some (.str (sOf ws)):=by
 show(strsOf _).bind _=_;rw[strs_map];show(if joinOk "" (ws.map λ c=>sOf [c]) then some (PyData.str (Txt.join "" (ws.map λ c=>sOf [c]))) else none)=_
 have hj:joinOk "" (ws.map λ c=>sOf [c])=true:=by
  unfold joinOk;rw[aaZ,List.length_map,show(("":Str).length)=0 from by decide +kernel];exact decide_eq_true (by omega)
 rw[if_pos hj]
 have e:(ws.map λ c=>sOf [c])=(ws.map λ c=>[c]).map sOf:=by rw[List.map_map];rfl
 rw[e,acK,yh]
theorem aa0 {s:S}(hs:Src s){m:Int}(h0:0<=m)(h1:m<=1000):∃ ws s',cW [some s,some (.d (.int m))]=.ok (.d (.str (sOf ws))) [some s',none]/\ws.length=m.toNat/\Small ws/\Src s':=by
 obtain⟨ws,s',e,l,k,h⟩:=aeJ m (intsD 0 m.toNat) [] s hs (by rw[rC,PySem.sizeLine_eq,List.length_nil];omega);rw[rC]at l;refine⟨ws,s',?_,l,k,h⟩;unfold cW wJ
 simp only[VS.evs,Nat.reduceAdd,Nat.reduceLT,Nat.reduceLeDiff,Nat.reduceSub,Nat.reduceEqDiff]
 rw[aaY h0 (by omega)]
 simp only[VS.evs,Nat.reduceAdd,Nat.reduceLT,Nat.reduceLeDiff,Nat.reduceSub,Nat.reduceEqDiff,e,acL (ws:=ws) (by omega)]
def Good (w:List Nat):Prop:=Small w/\1<=w.length/\w.length<=12
abbrev nD (w:List Nat):D:=.str (sOf w)
theorem ahv (w:List Nat)(ns:List (List Nat)):dInB (nD w) (.list (ns.map nD))=some (decide (w∈ns)):=by
 have hf:∀ l:List (List Nat),(l.map nD).all flatD=true:=λ l=>by
  induction l with
  | nil=>rfl
  | cons x l ih=>rw[List.map_cons,List.all_cons,ih];rfl
 show(if inOk (nD w) (ns.map nD) then some ((ns.map nD).any λ z=>z.eqv (nD w)) else none)=_;rw[if_pos (.inl ⟨rfl,hf ns⟩)]
 congr 1
 induction ns with
 | nil=>rfl
 | cons x l ih =>
  rw[List.map_cons,List.any_cons,ih,aaR]
  by_cases h:x=w
  ·subst h
   simp
  ·have h1:¬ sOf x=sOf w:=λ z=>h (akh z)
   have h2:¬ w=x:=λ z=>h z.symm
   simp[h1,h2]
theorem vp (w:List Nat)(ns:List (List Nat)):dNotIn (nD w) (.list (ns.map nD))=some (.bool (!decide (w∈ns))):=by
 unfold dNotIn;rw[ahv]
 rfl
theorem aeK {w:List Nat}(h:w.length<=100000):dLen (nD w)=some (.int w.length):=by
 rw[al8 (by rw[nM,PySem.sizeLine_eq];omega),nM]
theorem ab1 {a b:List Nat}(h:a.length+b.length<=100000):dAdd (nD a) (nD b)=some (.d (nD (a++b))):=by
 show dAdd (.str (sOf a)) (.str (sOf b))=_;rw[abH,if_pos (by rw[nM,nM,PySem.sizeLine_eq];omega),akg]
theorem ab2 {w:List Nat}{k:Int}(h:0<=k):L2.cutS (sOf w) none (some k)=sOf (w.take k.toNat):=by
 unfold L2.cutS;rw[nM,uI]
 have e:HT.sIx w.length 0 none=0:=rfl
 have e2:HT.sIx w.length w.length (some k)=min k.toNat w.length:=by
  show(if k < 0 then(k+w.length).toNat else min k.toNat w.length)=_;rw[if_neg (by omega)]
 rw[e,e2,List.drop_zero,Nat.sub_zero];unfold sOf
 congr 1
 congr 1
 by_cases hk:k.toNat<=w.length
 ·rw[Nat.min_eq_left hk]
 ·rw[Nat.min_eq_right (by omega),List.take_length,List.take_of_length_le (by omega)]
theorem kJ {w:List Nat}{k:Int}(h:0<=k):L2.cutS (sOf w) (some k) none=sOf (w.drop k.toNat):=by
 unfold L2.cutS;rw[nM,uI]
 have e:HT.sIx w.length w.length none=w.length:=rfl
 have e2:HT.sIx w.length 0 (some k)=min k.toNat w.length:=by
  show(if k < 0 then(k+w.length).toNat else min k.toNat w.length)=_;rw[if_neg (by omega)]
 rw[e,e2];unfold sOf
 congr 1
 congr 1
 by_cases hk:k.toNat<=w.length
 ·rw[Nat.min_eq_left hk,List.take_of_length_le (by rw[List.length_drop];omega)]
 ·rw[Nat.min_eq_right (by omega),Nat.sub_self,List.take_zero,List.drop_of_length_le (by omega)]
theorem aeL {w:List Nat}{k:Int}(h:0<=k)(hl:w.length<=100000):dSl (nD w) none (some k)=some (.d (nD (w.take k.toNat))):=by
 rw[al9 none (some k) (by rw[nM,PySem.sizeLine_eq];omega),ab2 h]
theorem ahw {w:List Nat}{k:Int}(h:0<=k)(hl:w.length<=100000):dSl (nD w) (some k) none=some (.d (nD (w.drop k.toNat))):=by
 rw[al9 (some k) none (by rw[nM,PySem.sizeLine_eq];omega),kJ h]
theorem wL (lo:Int)(m:Nat):intsD lo (m+1)=.int lo::intsD (lo+1) m:=by
 unfold intsD;rw[List.range_succ_eq_map,List.map_cons,List.map_map]
 congr 1
 ·simp
 ·apply List.map_congr_left
  intro a _;show PyData.int (lo+((a+1:Nat):Int))=PyData.int (lo+1+(a:Int))
  congr 1
  omega
theorem mO {α:Type}[DecidableEq α]:∀ (l ns:List α),l.Nodup->(∀ x∈l,x∈ns)->l.length<=ns.length
 | [],ns,_,_=>Nat.zero_le _
 | x::l,ns,nd,h=>by
  obtain⟨h1,h2⟩:=List.nodup_cons.mp nd
  have hx:x∈ns:=h x List.mem_cons_self
  have ih:=mO l (ns.erase x) h2 λ y hy=>(List.mem_erase_of_ne (λ z=>h1 (by rw[←z];exact hy))).mpr (h y (List.mem_cons_of_mem _ hy))
  rw[List.length_erase_of_mem hx]at ih
  have:0 < ns.length:=List.length_pos_of_mem hx
  rw[List.length_cons]
  omega
def cand (stem:List Nat)(t:Nat):List Nat:=stem++[97+t % 26,97+t / 26]
def tried (w stem:List Nat):Nat->List Nat
 | 0=>w
 | t+1=>cand stem t
theorem ahx {stem:List Nat}{a b:Nat}(h:cand stem a=cand stem b):a=b:=by
 have h':=List.append_cancel_left h
 injection h' with h1 h2
 injection h2 with h2 _
 omega
theorem z7 (ns:List (List Nat))(w stem:List Nat)(hs:stem.length<=10)(hw:w.length<=12):∀ (k t:Nat) (o:Option S),t+k<=600->(∃ t' L,t<=t'/\t' < t+k /\
   forGo (fName 4) (gSeq (gIf (gB (gOp dNotIn (gPeek 1) (gPeek 0))) (gRet (gMove 1)) gNext) (gAsg 1 (gOp dAdd (gFz (gOp dAdd (gVar 3) (gIxP 2 (gOp dMod (gVar 4) (gC (.int 26)))))) (gIxP 2 (gOp dDiv (gVar 4) (gC (.int 26)))))))
    (intsD t k) [some (.ol (ns.map nD)),some (.d (nD (tried w stem t))),some (.d (.str abc)),some (.d (nD stem)),o]=.ok (.rt (.d (nD (tried w stem t')))) (some (.ol (ns.map nD))::some (.d (nD (tried w stem t')))::L)/\tried w stem t'∉ns) ∨
  ((∀ j,t<=j->j < t+k->tried w stem j∈ns)/\∃ o',forGo (fName 4) (gSeq (gIf (gB (gOp dNotIn (gPeek 1) (gPeek 0))) (gRet (gMove 1)) gNext) (gAsg 1 (gOp dAdd (gFz (gOp dAdd (gVar 3) (gIxP 2 (gOp dMod (gVar 4) (gC (.int 26)))))) (gIxP 2 (gOp dDiv (gVar 4) (gC (.int 26)))))))
    (intsD t k) [some (.ol (ns.map nD)),some (.d (nD (tried w stem t))),some (.d (.str abc)),some (.d (nD stem)),o]=.ok .nx [some (.ol (ns.map nD)),some (.d (nD (tried w stem (t+k)))),some (.d (.str abc)),some (.d (nD stem)),o'])
 | 0,t,o,_=>.inr ⟨λ j h1 h2=>by omega,o,rfl⟩
 | k+1,t,o,hk=>by
  rw[wL,pJ (L1:=[some (.ol (ns.map nD)),some (.d (nD (tried w stem t))),some (.d (.str abc)),some (.d (nD stem)),some (.d (.int t))]) _ _ _ _ rfl]
  by_cases hin:tried w stem t∈ns
  ·have e1:(t:Int) % 26=((t % 26:Nat):Int):=by omega
   have e2:(t:Int) / 26=((t / 26:Nat):Int):=by omega
   have step:gSeq (gIf (gB (gOp dNotIn (gPeek 1) (gPeek 0))) (gRet (gMove 1)) gNext) (gAsg 1 (gOp dAdd (gFz (gOp dAdd (gVar 3) (gIxP 2 (gOp dMod (gVar 4) (gC (.int 26)))))) (gIxP 2 (gOp dDiv (gVar 4) (gC (.int 26))))))
     [some (.ol (ns.map nD)),some (.d (nD (tried w stem t))),some (.d (.str abc)),some (.d (nD stem)),some (.d (.int t))]=.ok .nx [some (.ol (ns.map nD)),some (.d (nD (tried w stem (t+1)))),some (.d (.str abc)),some (.d (nD stem)),some (.d (.int t))]:=by
    simp only[VS.evs,Nat.reduceAdd,Nat.reduceLT,Nat.reduceLeDiff,Nat.reduceSub,Nat.reduceEqDiff,vp,hin,nJ (show(0:Int) < 26 by decide),xZ (show(0:Int) < 26 by decide) (show(26:Int) < 1073741824 by decide)]
    rw[aeI (r:=(t:Int) % 26) (by omega) (by omega)]
    simp only[VS.evs,Nat.reduceAdd,Nat.reduceLT,Nat.reduceLeDiff,Nat.reduceSub,Nat.reduceEqDiff]
    rw[ab1 (a:=stem) (b:=[97+((t:Int) % 26).toNat]) (by simp;omega)]
    simp only[VS.evs,Nat.reduceAdd,Nat.reduceLT,Nat.reduceLeDiff,Nat.reduceSub,Nat.reduceEqDiff,nJ (show(0:Int) < 26 by decide),xZ (show(0:Int) < 26 by decide) (show(26:Int) < 1073741824 by decide)]
    rw[aeI (r:=(t:Int) / 26) (by omega) (by omega)]
    simp only[VS.evs,Nat.reduceAdd,Nat.reduceLT,Nat.reduceLeDiff,Nat.reduceSub,Nat.reduceEqDiff]
    rw[ab1 (a:=stem++[97+((t:Int) % 26).toNat]) (b:=[97+((t:Int) / 26).toNat]) (by simp;omega)]
    simp only[VS.evs,Nat.reduceAdd,Nat.reduceLT,Nat.reduceLeDiff,Nat.reduceSub,Nat.reduceEqDiff]
    rw[e1,e2,Int.toNat_natCast,Int.toNat_natCast,List.append_assoc]
    rfl
   rw[step,rK];rcases z7 ns w stem hs hw k (t+1) (some (.d (.int t))) (by omega) with ⟨t',L,h1,h2,h3,h4⟩ | ⟨h1,o',h2⟩
   ·exact .inl ⟨t',L,by omega,by omega,h3,h4⟩
   ·refine .inr ⟨λ j h3 h4=>?_,o',?_⟩
    ·by_cases hj:j=t
     ·rw[hj];exact hin
     ·exact h1 j (by omega) (by omega)
    ·have e:t+1+k=t+(k+1):=by omega
     rw[e]at h2;exact h2
  ·refine .inl ⟨t,[some (.d (.str abc)),some (.d (nD stem)),some (.d (.int t))],Nat.le_refl t,by omega,?_,hin⟩
   have step:gSeq (gIf (gB (gOp dNotIn (gPeek 1) (gPeek 0))) (gRet (gMove 1)) gNext) (gAsg 1 (gOp dAdd (gFz (gOp dAdd (gVar 3) (gIxP 2 (gOp dMod (gVar 4) (gC (.int 26)))))) (gIxP 2 (gOp dDiv (gVar 4) (gC (.int 26))))))
     [some (.ol (ns.map nD)),some (.d (nD (tried w stem t))),some (.d (.str abc)),some (.d (nD stem)),some (.d (.int t))]=.ok (.rt (.d (nD (tried w stem t)))) [some (.ol (ns.map nD)),some (.d (nD (tried w stem t))),some (.d (.str abc)),some (.d (nD stem)),some (.d (.int t))]:=by
    simp only[VS.evs,Nat.reduceAdd,Nat.reduceLT,Nat.reduceLeDiff,Nat.reduceSub,Nat.reduceEqDiff,vp,hin]
   rw[step,xY]
theorem wM {w:List Nat}(hw:Good w){t:Nat}(ht:t<=600):Good (tried w (w.take 10) t):=by
 cases t with
 | zero=>exact hw
 | succ t =>
  refine⟨(hw.1.take 10).app λ c hc=>?_,?_,?_⟩
  ·rcases List.mem_cons.mp hc with rfl | hc
   ·omega
   ·rw[List.mem_singleton]at hc
    omega
  ·show 1<=(w.take 10++_).length;rw[List.length_append]
   simp
  ·show(w.take 10++_).length<=12;rw[List.length_append,List.length_take]
   simp
   omega
theorem acM (ns:List (List Nat))(w:List Nat)(hw:w.length<=12)(X:LS->R O):runDef Q0 5 (gSeq (gAsg 2 (gD (gC (.str abc)))) (gSeq (gAsg 3 (gSl (gPeek 1) gNo (gSo (gC (.int 10))))) X)) [some (.ol (ns.map nD)),some (.d (nD w))]=endOf Q0 (X [some (.ol (ns.map nD)),some (.d (nD w)),some (.d (.str abc)),some (.d (nD (w.take 10))),none]):=by
 have h10:dSl (nD w) none (some 10)=some (.d (nD (w.take 10))):=aeL (by decide) (by omega)
 simp only[VS.evs,Nat.reduceAdd,Nat.reduceLT,Nat.reduceLeDiff,Nat.reduceSub,Nat.reduceEqDiff,h10]
theorem ahy (ns:List D)(o p q r:Option S):gFz (gOp dAdd (gUn dLen (gPeek 0)) (gC (.int 1))) [some (.ol ns),o,p,q,r]=.ok (.int ((ns.length:Int)+1)) [some (.ol ns),o,p,q,r]:=by
 simp only[VS.evs,Nat.reduceAdd,Nat.reduceLT,Nat.reduceLeDiff,Nat.reduceSub,Nat.reduceEqDiff]
theorem ahz (ns:List D)(o p q r:Option S):(gCons (gFz (gOp dAdd (gUn dLen (gPeek 0)) (gC (.int 1)))) gNil [some (.ol ns),o,p,q,r])=.ok [.int ((ns.length:Int)+1)] [some (.ol ns),o,p,q,r]:=by
 rw[adR,ahy]
 rfl
theorem aki (ns:List D)(hn:ns.length<=500)(o p q r:Option S):(gCons (gFz (gOp dAdd (gUn dLen (gPeek 0)) (gC (.int 1)))) gNil [some (.ol ns),o,p,q,r]).bind abJ=.ok (intsD 0 ((ns.length:Int)+1).toNat) [some (.ol ns),o,p,q,r]:=by
 rw[ahz,aaQ,aaY (by omega) (by omega)]
theorem acN (ns:List (List Nat))(w st:List Nat)(hn:ns.length<=500):(gCons (gFz (gOp dAdd (gUn dLen (gPeek 0)) (gC (.int 1)))) gNil [some (.ol (ns.map nD)),some (.d (nD w)),some (.d (.str abc)),some (.d (nD st)),none]).bind abJ=.ok (intsD 0 (ns.length+1)) [some (.ol (ns.map nD)),some (.d (nD w)),some (.d (.str abc)),some (.d (nD st)),none]:=by
 rw[aki _ (by rw[List.length_map];exact hn),List.length_map,show((ns.length:Int)+1).toNat=ns.length+1 by omega]
theorem aeM {ns:List (List Nat)}{w:List Nat}(hn:ns.length<=500)(hw:Good w):∃ w',gW [some (.ol (ns.map nD)),some (.d (nD w))]=.ok (.d (nD w')) [some (.ol (ns.map nD)),none]/\Good w'/\w'∉ns:=by
 have hs:(w.take 10).length<=10:=by rw[List.length_take];omega
 unfold gW tY;rw[acM ns w hw.2.2,jw,abR,acN ns w (w.take 10) hn,xX];rcases z7 ns w (w.take 10) hs hw.2.2 (ns.length+1) 0 none (by omega) with ⟨t',L,h1,h2,h3,h4⟩ | ⟨h1,o',h2⟩
 ·have h3':=h3
  rw[show tried w (w.take 10) 0=w from rfl]at h3';rw[show((0:Nat):Int)=0 from rfl]at h3';rw[h3',adL];exact⟨tried w (w.take 10) t',rfl,wM hw (by omega),h4⟩
 ·have h2':=h2
  rw[show tried w (w.take 10) 0=w from rfl]at h2';rw[show((0:Nat):Int)=0 from rfl]at h2';rw[h2',fV];refine⟨tried w (w.take 10) (0+(ns.length+1)),rfl,wM hw (by omega),λ hin=>?_⟩
  have nd:((List.range (ns.length+1)).map (cand (w.take 10))).Nodup:=by
   rw[List.nodup_iff_pairwise_ne,List.pairwise_map];exact(List.nodup_iff_pairwise_ne.mp List.nodup_range).imp λ h z=>h (ahx z)
  have:=mO _ ns nd λ x hx=>by
   obtain⟨t,ht,rfl⟩:=List.mem_map.mp hx
   have ht':=List.mem_range.mp ht
   by_cases e:t=ns.length
   ·subst e
    rw[Nat.zero_add]at hin;exact hin
   ·exact h1 (t+1) (by omega) (by omega)
  rw[List.length_map,List.length_range]at this
  omega
theorem aeN {st x:List Nat}{a:Nat}(hs:Small st)(hx:Small x)(h:a < st.length)(hl:x.length=1)(hle:st.length<=12):Good (st.take a++x++st.drop (a+1)):=by
 refine⟨((hs.take a).app hx).app (hs.drop (a+1)),?_,?_⟩
 ·rw[List.length_append,List.length_append,List.length_take,List.length_drop,hl];omega
 ·rw[List.length_append,List.length_append,List.length_take,List.length_drop,hl];omega
abbrev rN:LS->R O:=(gSeq (gAsg 7 (gOp dAdd (gFz (gOp dAdd (gFz (gSl (gPeek 3) gNo (gSo (gVar 4)))) (gFz (gCall cW [.r 0,.d (gC (.int 1))])))) (gFz (gSl (gPeek 3) (gSo (gFz (gOp dAdd (gVar 4) (gC (.int 1))))) gNo))))
  (gSeq (gIf (gB (gOp dEq (gPeek 2) (gC (.int 1)))) (gAsg 7 (gSl (gVar 3) gNo (gSo (gFz (gOp dAdd (gC (.int 1)) (gFz (gCall az [.r 0,.d (gUn dLen (gPeek 3))]))))))) gNext)
  (gSeq (gIf (gB (gOp dEq (gPeek 2) (gC (.int 2)))) (gAsg 7 (gCall cW [.r 0,.d (gFz (gOp dAdd (gC (.int 1)) (gFz (gCall az [.r 0,.d (gC (.int 12))]))))])) gNext)
  (gDrop (gApp 5 (gFz (gCall gW [.r 5,.d (gVar 7)])))))))
theorem acO {many style:Int}{st:List Nat}{a:Nat}(hst:Small st)(ha:a < st.length)(hle:st.length<=11){s:S}(hs:Src s){ns:List (List Nat)}(hn:ns.length<=500)(o6 o7:Option S) :
  ∃ w' s' o7',rN [some s,some (.d (.int many)),some (.d (.int style)),some (.d (nD st)),some (.d (.int a)),some (.ol (ns.map nD)),o6,o7]
   = .ok .nx [some s',some (.d (.int many)),some (.d (.int style)),some (.d (nD st)),some (.d (.int a)),some (.ol ((ns++[w']).map nD)),o6,o7']/\Good w'/\w'∉ns/\Src s':=by
 obtain⟨x,s1,e1,l1,k1,hs1⟩:=aa0 hs (m:=1) (by decide) (by decide)
 have l1':x.length=1:=l1
 have hmix:=aeN hst k1 ha l1' (by omega)
 have c1:dSl (nD st) none (some (a:Int))=some (.d (nD (st.take a))):=aeL (by omega) (by omega)
 have c2:dSl (nD st) (some ((a:Int)+1)) none=some (.d (nD (st.drop (a+1)))):=ahw (k:=(a:Int)+1) (by omega) (by omega)
 have a1:dAdd (nD (st.take a)) (nD x)=some (.d (nD (st.take a++x))):=ab1 (by rw[List.length_take];omega)
 have a2:dAdd (nD (st.take a++x)) (nD (st.drop (a+1)))=some (.d (nD (st.take a++x++st.drop (a+1)))):=ab1 (by rw[List.length_append,List.length_take,List.length_drop];omega)
 have fin:∀ (w:List Nat) (s:S),Good w->Src s->∃ w',(gDrop (gApp 5 (gFz (gCall gW [.r 5,.d (gVar 7)])))) [some s,some (.d (.int many)),some (.d (.int style)),some (.d (nD st)),some (.d (.int a)),some (.ol (ns.map nD)),o6,some (.d (nD w))]
   = .ok .nx [some s,some (.d (.int many)),some (.d (.int style)),some (.d (nD st)),some (.d (.int a)),some (.ol ((ns++[w']).map nD)),o6,some (.d (nD w))]/\Good w'/\w'∉ns:=λ w s hw hs=>by
  obtain⟨w',e,g,ni⟩:=aeM hn hw;refine⟨w',?_,g,ni⟩
  have hz:(ns.map nD).length < sizeLine:=by rw[List.length_map,PySem.sizeLine_eq];omega
  simp only[VS.evs,Nat.reduceAdd,Nat.reduceLT,Nat.reduceLeDiff,Nat.reduceSub,Nat.reduceEqDiff,e,hz]
  rw[List.map_append]
  rfl
 have s0:gAsg 7 (gOp dAdd (gFz (gOp dAdd (gFz (gSl (gPeek 3) gNo (gSo (gVar 4)))) (gFz (gCall cW [.r 0,.d (gC (.int 1))])))) (gFz (gSl (gPeek 3) (gSo (gFz (gOp dAdd (gVar 4) (gC (.int 1))))) gNo))) [some s,some (.d (.int many)),some (.d (.int style)),some (.d (nD st)),some (.d (.int a)),some (.ol (ns.map nD)),o6,o7]
   = .ok .nx [some s1,some (.d (.int many)),some (.d (.int style)),some (.d (nD st)),some (.d (.int a)),some (.ol (ns.map nD)),o6,some (.d (nD (st.take a++x++st.drop (a+1))))]:=by
  simp only[VS.evs,Nat.reduceAdd,Nat.reduceLT,Nat.reduceLeDiff,Nat.reduceSub,Nat.reduceEqDiff,c1,e1,c2,a1,a2]
 unfold rN;rw[jw,s0,fV]
 by_cases h1:style=1
 ·subst h1
  obtain⟨r,s2,e2,r0,r1,hs2⟩:=qI hs1 (n:=st.length) (by omega) (by omega)
  have c3:dSl (nD st) none (some (1+r))=some (.d (nD (st.take (1+r).toNat))):=aeL (by omega) (by omega)
  have hg:Good (st.take (1+r).toNat):=⟨hst.take _,by rw[List.length_take];omega,by rw[List.length_take];omega⟩
  obtain⟨w',f1,f2,f3⟩:=fin _ s2 hg hs2;refine⟨w',s2,some (.d (nD (st.take (1+r).toNat))),?_,f2,f3,hs2⟩
  have hl:dLen (nD st)=some (.int st.length):=aeK (by omega)
  have s1':gIf (gB (gOp dEq (gPeek 2) (gC (.int 1)))) (gAsg 7 (gSl (gVar 3) gNo (gSo (gFz (gOp dAdd (gC (.int 1)) (gFz (gCall az [.r 0,.d (gUn dLen (gPeek 3))]))))))) gNext [some s1,some (.d (.int many)),some (.d (.int 1)),some (.d (nD st)),some (.d (.int a)),some (.ol (ns.map nD)),o6,some (.d (nD (st.take a++x++st.drop (a+1))))]
    = .ok .nx [some s2,some (.d (.int many)),some (.d (.int 1)),some (.d (nD st)),some (.d (.int a)),some (.ol (ns.map nD)),o6,some (.d (nD (st.take (1+r).toNat)))]:=by
   simp only[VS.evs,Nat.reduceAdd,Nat.reduceLT,Nat.reduceLeDiff,Nat.reduceSub,Nat.reduceEqDiff,hl,e2,c3]
  have s2':gIf (gB (gOp dEq (gPeek 2) (gC (.int 2)))) (gAsg 7 (gCall cW [.r 0,.d (gFz (gOp dAdd (gC (.int 1)) (gFz (gCall az [.r 0,.d (gC (.int 12))]))))])) gNext [some s2,some (.d (.int many)),some (.d (.int 1)),some (.d (nD st)),some (.d (.int a)),some (.ol (ns.map nD)),o6,some (.d (nD (st.take (1+r).toNat)))]
    = .ok .nx [some s2,some (.d (.int many)),some (.d (.int 1)),some (.d (nD st)),some (.d (.int a)),some (.ol (ns.map nD)),o6,some (.d (nD (st.take (1+r).toNat)))]:=rfl
  rw[jw,s1',fV,jw,s2',fV,f1]
 ·have s1':gIf (gB (gOp dEq (gPeek 2) (gC (.int 1)))) (gAsg 7 (gSl (gVar 3) gNo (gSo (gFz (gOp dAdd (gC (.int 1)) (gFz (gCall az [.r 0,.d (gUn dLen (gPeek 3))]))))))) gNext [some s1,some (.d (.int many)),some (.d (.int style)),some (.d (nD st)),some (.d (.int a)),some (.ol (ns.map nD)),o6,some (.d (nD (st.take a++x++st.drop (a+1))))]
    = .ok .nx [some s1,some (.d (.int many)),some (.d (.int style)),some (.d (nD st)),some (.d (.int a)),some (.ol (ns.map nD)),o6,some (.d (nD (st.take a++x++st.drop (a+1))))]:=by
   simp only[VS.evs,Nat.reduceAdd,Nat.reduceLT,Nat.reduceLeDiff,Nat.reduceSub,Nat.reduceEqDiff,h1]
  rw[jw,s1',fV]
  by_cases h2:style=2
  ·subst h2
   obtain⟨r,s2,e2,r0,r1,hs2⟩:=qI hs1 (n:=12) (by omega) (by omega);obtain⟨y,s3,e3,l3,k3,hs3⟩:=aa0 hs2 (m:=1+r) (by omega) (by omega);obtain⟨w',f1,f2,f3⟩:=fin y s3 ⟨k3,by omega,by omega⟩ hs3;refine⟨w',s3,some (.d (nD y)),?_,f2,f3,hs3⟩
   have s2':gIf (gB (gOp dEq (gPeek 2) (gC (.int 2)))) (gAsg 7 (gCall cW [.r 0,.d (gFz (gOp dAdd (gC (.int 1)) (gFz (gCall az [.r 0,.d (gC (.int 12))]))))])) gNext [some s1,some (.d (.int many)),some (.d (.int 2)),some (.d (nD st)),some (.d (.int a)),some (.ol (ns.map nD)),o6,some (.d (nD (st.take a++x++st.drop (a+1))))]
     = .ok .nx [some s3,some (.d (.int many)),some (.d (.int 2)),some (.d (nD st)),some (.d (.int a)),some (.ol (ns.map nD)),o6,some (.d (nD y))]:=by
    simp only[VS.evs,Nat.reduceAdd,Nat.reduceLT,Nat.reduceLeDiff,Nat.reduceSub,Nat.reduceEqDiff,e2,e3]
   rw[jw,s2',fV,f1]
  ·obtain⟨w',f1,f2,f3⟩:=fin _ s1 hmix hs1;refine⟨w',s1,some (.d (nD (st.take a++x++st.drop (a+1)))),?_,f2,f3,hs1⟩
   have s2':gIf (gB (gOp dEq (gPeek 2) (gC (.int 2)))) (gAsg 7 (gCall cW [.r 0,.d (gFz (gOp dAdd (gC (.int 1)) (gFz (gCall az [.r 0,.d (gC (.int 12))]))))])) gNext [some s1,some (.d (.int many)),some (.d (.int style)),some (.d (nD st)),some (.d (.int a)),some (.ol (ns.map nD)),o6,some (.d (nD (st.take a++x++st.drop (a+1))))]
     = .ok .nx [some s1,some (.d (.int many)),some (.d (.int style)),some (.d (nD st)),some (.d (.int a)),some (.ol (ns.map nD)),o6,some (.d (nD (st.take a++x++st.drop (a+1))))]:=by
    simp only[VS.evs,Nat.reduceAdd,Nat.reduceLT,Nat.reduceLeDiff,Nat.reduceSub,Nat.reduceEqDiff,h2]
   rw[jw,s2',fV,f1]
theorem ab3 {many style:Int}{st:List Nat}{a:Nat}(hst:Small st)(ha:a < st.length)(hle:st.length<=11):∀ (k:Nat) (lo:Int) {s:S} (hs:Src s) {ns:List (List Nat)} (hn:ns.length+k<=500) (hd:ns.Nodup) (hg:∀ n∈ns,Good n) (o6 o7:Option S),
  ∃ (ns':List (List Nat)) (s':S) (o6' o7':Option S),forGo (fName 6) rN (intsD lo k) [some s,some (.d (.int many)),some (.d (.int style)),some (.d (nD st)),some (.d (.int a)),some (.ol (ns.map nD)),o6,o7]
   = .ok .nx [some s',some (.d (.int many)),some (.d (.int style)),some (.d (nD st)),some (.d (.int a)),some (.ol (ns'.map nD)),o6',o7']/\ns'.length=ns.length+k/\ns'.Nodup/\(∀ n∈ns',Good n)/\Src s'
 | 0,lo,s,hs,ns,hn,hd,hg,o6,o7=>⟨ns,s,o6,o7,rfl,rfl,hd,hg,hs⟩
 | k+1,lo,s,hs,ns,hn,hd,hg,o6,o7=>by
  obtain⟨w',s1,o7',e,g,ni,hs1⟩:=acO (many:=many) (style:=style) hst ha hle hs (ns:=ns) (by omega) (some (.d (.int lo))) o7
  obtain⟨ns',s',o6',o7'',e2,l2,d2,g2,hs2⟩:=ab3 (many:=many) (style:=style) hst ha hle k (lo+1) hs1 (ns:=ns++[w']) (by rw[List.length_append,List.length_singleton];omega)
   (by
    rw[List.nodup_append];refine⟨hd,List.nodup_cons.mpr ⟨List.not_mem_nil,List.nodup_nil⟩,λ x hx y hy z=>?_⟩;rw[List.mem_singleton]at hy
    subst hy
    subst z
    exact ni hx)
   (λ n hn=>by
    rcases List.mem_append.mp hn with h | h
    ·exact hg n h
    ·rw[List.mem_singleton]at h;rw[h]
     exact g) (some (.d (.int lo))) o7'
  refine⟨ns',s',o6',o7'',?_,by rw[l2,List.length_append,List.length_singleton];omega,d2,g2,hs2⟩;rw[wL,pJ (L1:=[some s,some (.d (.int many)),some (.d (.int style)),some (.d (nD st)),some (.d (.int a)),some (.ol (ns.map nD)),some (.d (.int lo)),o7]) _ _ _ _ rfl,e,rK,e2]
theorem ahA {s:S}(hs:Src s){many:Int}(h0:0<=many)(h1:many<=500):∃ (ns:List (List Nat)) (s':S),jj [some s,some (.d (.int many))]=.ok (.ol (ns.map nD)) [some s',none]/\ns.length=many.toNat/\ns.Nodup/\(∀ n∈ns,Good n)/\Src s':=by
 obtain⟨style,s1,e1,_,_,hs1⟩:=qI hs (n:=3) (by omega) (by omega);obtain⟨r,s2,e2,r0,r1,hs2⟩:=qI hs1 (n:=11) (by omega) (by omega);obtain⟨st,s3,e3,l3,k3,hs3⟩:=aa0 hs2 (m:=1+r) (by omega) (by omega);obtain⟨a,s4,e4,a0,a1,hs4⟩:=qI hs3 (n:=st.length) (by omega) (by omega);obtain⟨j,rfl⟩:=Int.eq_ofNat_of_zero_le a0;obtain⟨ns,s',o6,o7,e5,l5,d5,g5,hs5⟩:=ab3 (many:=many) (style:=style) (a:=j) k3 (by omega) (by omega) many.toNat 0 hs4 (ns:=[]) (by simp;omega) List.nodup_nil (λ n hn=>by cases hn) none none;refine⟨ns,s',?_,by rw[l5];simp,d5,g5,hs5⟩
 have hl:dLen (nD st)=some (.int st.length):=aeK (by omega)
 unfold jj vm
 have pre:∀ X:LS->R O,runDef Q0 8 (gSeq (gAsg 2 (gCall az [.r 0,.d (gC (.int 3))]))
  (gSeq (gAsg 3 (gCall cW [.r 0,.d (gFz (gOp dAdd (gC (.int 1)) (gFz (gCall az [.r 0,.d (gC (.int 11))]))))]))
  (gSeq (gAsg 4 (gCall az [.r 0,.d (gUn dLen (gPeek 3))]))
  (gSeq (gAsg 5 (gLst gNil)) X)))) [some s,some (.d (.int many))]=endOf Q0 (X [some s4,some (.d (.int many)),some (.d (.int style)),some (.d (nD st)),some (.d (.int j)),some (.ol []),none,none]):=λ X=>by
  simp only[VS.evs,Nat.reduceAdd,Nat.reduceLT,Nat.reduceLeDiff,Nat.reduceSub,Nat.reduceEqDiff,e1,e2,e3,hl,e4,zH (show 0<=1000000 by decide)]
 have hr:(gCons (gVar 1) gNil [some s4,some (.d (.int many)),some (.d (.int style)),some (.d (nD st)),some (.d (.int j)),some (.ol []),none,none]).bind abJ=.ok (intsD 0 many.toNat) [some s4,some (.d (.int many)),some (.d (.int style)),some (.d (nD st)),some (.d (.int j)),some (.ol []),none,none]:=by
  have e:gCons (gVar 1) gNil [some s4,some (.d (.int many)),some (.d (.int style)),some (.d (nD st)),some (.d (.int j)),some (.ol []),none,none]=.ok [.int many] [some s4,some (.d (.int many)),some (.d (.int style)),some (.d (nD st)),some (.d (.int j)),some (.ol []),none,none]:=rfl
  rw[e,aaQ,aaY h0 (by omega)]
 rw[pre,jw,abR,hr,xX]
 have e5':=e5
 unfold rN at e5';rw[List.map_nil]at e5';rw[e5',fV]
 rfl
theorem akj (k:Nat):k∈abc.cps.toList↔97<=k/\k<=122:=by
 constructor
 ·intro h;obtain⟨i,hi,e⟩:=List.mem_iff_getElem.mp h;rw[aaX]at hi
  have:=aeH i (List.mem_range.mpr hi)
  rw[List.getElem?_eq_getElem (by rw[aaX];exact hi),e]at this
  have:=Option.some.inj this
  omega
 ·intro h
  have:=aeH (k - 97) (List.mem_range.mpr (by omega))
  have e:97+(k - 97)=k:=by omega
  rw[e]at this;exact List.mem_of_getElem? this
def smallB (c:Nat):Bool:=decide (97<=c/\c<=122)
def isN (w:List Nat):Bool:=decide (1<=w.length/\w.length<=12)&&w.all smallB
theorem aeO (c:Nat):dNotIn (.str ⟨#[c]⟩) (.str abc)=some (.bool (!smallB c)):=by
 have e:dInB (.str ⟨#[c]⟩) (.str abc)=some (decide (c∈abc.cps.toList)):=rfl
 unfold dNotIn;rw[e];unfold smallB;rw[decide_eq_decide.mpr (akj c)]
 rfl
theorem aeP (w:List Nat):signs (sOf w)=w.map λ c=>PyData.str ⟨#[c]⟩:=by
 unfold signs;rw[uI]
theorem wN:∀ (w:List Nat) (t:D) (o:Option S),∃ o',forGo (fName 1) (gIf (gB (gOp dNotIn (gPeek 1) (gC (.str abc)))) (gRet (gD (gC (.bool false)))) gNext) (w.map λ c=>PyData.str ⟨#[c]⟩) [some (.d t),o]
  = if w.all smallB then .ok .nx [some (.d t),o'] else .ok (.rt (.d (.bool false))) [some (.d t),o']
 | [],t,o=>⟨o,rfl⟩
 | c::w,t,o=>by
  obtain⟨o',e⟩:=wN w t (some (.d (.str ⟨#[c]⟩)));rw[List.map_cons,pJ (L1:=[some (.d t),some (.d (.str ⟨#[c]⟩))]) _ _ _ _ rfl]
  by_cases h:smallB c=true
  ·refine⟨o',?_⟩
   have step:gIf (gB (gOp dNotIn (gPeek 1) (gC (.str abc)))) (gRet (gD (gC (.bool false)))) gNext [some (.d t),some (.d (.str ⟨#[c]⟩))]=.ok .nx [some (.d t),some (.d (.str ⟨#[c]⟩))]:=by
    simp only[VS.evs,Nat.reduceAdd,Nat.reduceLT,Nat.reduceLeDiff,Nat.reduceSub,Nat.reduceEqDiff,aeO,h]
   rw[step,rK,e,List.all_cons,h,Bool.true_and]
  ·refine⟨some (.d (.str ⟨#[c]⟩)),?_⟩
   have h':smallB c=false:=by simpa using h
   have step:gIf (gB (gOp dNotIn (gPeek 1) (gC (.str abc)))) (gRet (gD (gC (.bool false)))) gNext [some (.d t),some (.d (.str ⟨#[c]⟩))]=.ok (.rt (.d (.bool false))) [some (.d t),some (.d (.str ⟨#[c]⟩))]:=by
    simp only[VS.evs,Nat.reduceAdd,Nat.reduceLT,Nat.reduceLeDiff,Nat.reduceSub,Nat.reduceEqDiff,aeO,h']
   rw[step,xY,List.all_cons,h',Bool.false_and]
   rfl
theorem acP {w:List Nat}(h:w.length<=100000):mJ [some (.d (.str (sOf w)))]=.ok (.d (.bool (isN w))) [none]:=by
 have hl:dLen (.str (sOf w))=some (.int w.length):=aeK h
 unfold mJ zW
 by_cases hb:1<=w.length/\w.length<=12
 ·have h1:¬ ((w.length:Int) < 1):=by omega
  have h2:¬ ((12:Int) < (w.length:Int)):=by omega
  obtain⟨o',e⟩:=wN w (.str (sOf w)) none
  have hr:(gVar 0 [some (.d (.str (sOf w))),none]).bind fH=.ok (w.map λ c=>PyData.str ⟨#[c]⟩) [some (.d (.str (sOf w))),none]:=by
   simp only[VS.evs,Nat.reduceAdd,Nat.reduceLT,Nat.reduceLeDiff,Nat.reduceSub,Nat.reduceEqDiff,aeP]
  have s0:∀ X:LS->R O,runDef [false] 2 (gSeq (gIf (gOr (gB (gOp dLt (gUn dLen (gPeek 0)) (gC (.int 1)))) (gB (gOp dGt (gUn dLen (gPeek 0)) (gC (.int 12))))) (gRet (gD (gC (.bool false)))) gNext) X) [some (.d (.str (sOf w)))]=endOf [false] (X [some (.d (.str (sOf w))),none]):=λ X=>by
   simp only[VS.evs,Nat.reduceAdd,Nat.reduceLT,Nat.reduceLeDiff,Nat.reduceSub,Nat.reduceEqDiff,hl,h1,h2]
  rw[s0,jw,abR,hr,xX,e];unfold isN;rw[decide_eq_true hb,Bool.true_and]
  by_cases ha:w.all smallB=true
  ·rw[if_pos ha,ha]
   rfl
  ·have ha':w.all smallB=false:=by simpa using ha
   rw[if_neg ha,ha']
   rfl
 ·have hf:isN w=false:=by
   unfold isN;rw[decide_eq_false hb,Bool.false_and]
  rw[hf]
  by_cases h1:(w.length:Int) < 1
  ·simp only[VS.evs,Nat.reduceAdd,Nat.reduceLT,Nat.reduceLeDiff,Nat.reduceSub,Nat.reduceEqDiff,hl,h1]
  ·have h2:(12:Int) < (w.length:Int):=by omega
   simp only[VS.evs,Nat.reduceAdd,Nat.reduceLT,Nat.reduceLeDiff,Nat.reduceSub,Nat.reduceEqDiff,hl,h1,h2]
theorem akk (ns:List Int)(h:ns.length<=63):cutD (ns.map PyData.int) none (some 63)=ns.map PyData.int:=by
 unfold cutD
 have e:HT.sIx (ns.map PyData.int).length 0 none=0:=rfl
 have e2:HT.sIx (ns.map PyData.int).length (ns.map PyData.int).length (some 63)=min (63:Int).toNat (ns.map PyData.int).length:=rfl
 rw[e,e2,List.drop_zero,List.length_map,Nat.sub_zero,List.take_of_length_le];rw[List.length_map]
 have:(63:Int).toNat=63:=rfl
 omega
theorem amB {ns:List Int}(h:ns.length<=63):mK [some (.scr ns)]=.ok (srcS ns 0 0 1 0) [some (.scr ns)]:=by
 unfold mK zX
 simp only[VS.evs,Nat.reduceAdd,Nat.reduceLT,Nat.reduceLeDiff,Nat.reduceSub,Nat.reduceEqDiff,akk ns h,zH (show 0+1+1+1+1+1<=1000000 by decide)]
 rfl
theorem aeQ {ns:List Int}(h:ns.length<=63):Src (srcS ns 0 0 1 0):=⟨ns,0,0,1,0,rfl,h,by omega,by omega,by omega,by omega,by omega⟩
end Lw
namespace Lw
open PySem PySem.Spec PyProof.Rows L2 VS
def qJ:LS->R O:=(gRet (gD (gAndV (gIsi "int" (gPeek 0)) (gUn dNot (gIsi "bool" (gPeek 0))))))
def jk:LS->R S:=runDef [false] 1 qJ
def iG:Nat->LS->R S
 | 0=>λ _=>.stuck
 | k_+1=>runDef Q1 4 ((gSeq (gIf (gB (gOp dIs (gPeek 1) (gC .none))) (gRet (gD (gOp dIs (gPeek 0) (gC .none)))) gNext)
  (gSeq (gIf (gB (gIsi "bool" (gPeek 1))) (gRet (gD (gAndV (gIsi "bool" (gPeek 0)) (gOp dEq (gPeek 0) (gPeek 1))))) gNext)
  (gSeq (gIf (gB (gIsi "int" (gPeek 1))) (gRet (gD (gAndV (gFz (gCall Lw.jk [.d (gVar 0)])) (gOp dEq (gPeek 0) (gPeek 1))))) gNext)
  (gSeq (gIf (gB (gIsi "str" (gPeek 1))) (gRet (gD (gAndV (gIsi "str" (gPeek 0)) (gOp dEq (gPeek 0) (gPeek 1))))) gNext)
  (gSeq (gIf (gOr (gB (gOp dNe (gIsi "list" (gPeek 1)) (gIsi "list" (gPeek 0)))) (gB (gOp dNe (gIsi "tuple" (gPeek 1)) (gIsi "tuple" (gPeek 0))))) (gRet (gD (gC (.bool false)))) gNext)
  (gSeq (gIf (gB (gOp dNe (gUn dLen (gPeek 0)) (gUn dLen (gPeek 1)))) (gRet (gD (gC (.bool false)))) gNext)
  (gSeq (gFor (λ L=>((gCons (gVar 0) (gCons (gVar 1) gNil)) L).bind asZip) (fTup 2 (fCons (fName 2) (fCons (fName 3) fNil))) (gIf (gNot (gB (gFz (gCall (iG k_) [.d (gVar 2),.d (gVar 3)])))) (gRet (gD (gC (.bool false)))) gNext))
  (gRet (gD (gC (.bool true))))))))))))
end Lw
namespace Lw
open PySem VS
def Pl:Nat->D->Prop
 | 0,_=>False
 | k+1,d=>match d with
  | .none=>True
  | .bool _=>True
  | .int _=>True
  | .str _=>True
  | .list xs=>∀ x∈xs,Pl k x
  | .tuple xs=>∀ x∈xs,Pl k x
  | _=>False
theorem aeR (i:Int):jk [some (.d (.int i))]=.ok (.d (.bool true)) [none]:=by
 unfold jk qJ
 simp only[VS.evs,Nat.reduceAdd,Nat.reduceLT,Nat.reduceLeDiff,Nat.reduceSub,Nat.reduceEqDiff]
noncomputable def eqb (d e:D):Bool:=@decide (d=e) (Classical.propDecidable _)
theorem aa1 {d e:D}:eqb d e=true↔d=e:=by unfold eqb;exact @decide_eq_true_iff _ (Classical.propDecidable _)
theorem rO (d:D):eqb d d=true:=aa1.mpr rfl
theorem lw {d e:D}(h:d≠e):eqb d e=false:=by
 cases z:eqb d e with
 | false=>rfl
 | true=>exact absurd (aa1.mp z) h
theorem rP {d:D}(h:∀ i,d≠.int i)(h2:∀ i,d≠.dict i):jk [some (.d d)]=.ok (.d (.bool false)) [none]:=by
 unfold jk qJ
 cases d with
 | int i=>exact absurd rfl (h i)
 | dict i=>exact absurd rfl (h2 i)
 | _=>simp only[VS.evs,Nat.reduceAdd,Nat.reduceLT,Nat.reduceLeDiff,Nat.reduceSub,Nat.reduceEqDiff]
theorem ym {m:LS->R S}{d0 d1:Option S}:∀ (zs:List (D×D)) (o2 o3:Option S),(∀ z∈zs,m [some (.d z.1),some (.d z.2)]=.ok (.d (.bool (eqb z.1 z.2))) [none,none]) ->
  ∃ o2' o3',forGo (fTup 2 (fCons (fName 2) (fCons (fName 3) fNil))) (gIf (gNot (gB (gFz (gCall m [.d (gVar 2),.d (gVar 3)])))) (gRet (gD (gC (.bool false)))) gNext) (zs.map λ z=>.tuple [z.1,z.2]) [d0,d1,o2,o3]=.ok (if(zs.all λ z=>eqb z.1 z.2)=true then .nx else .rt (.d (.bool false))) [d0,d1,o2',o3']
 | [],o2,o3,_=>⟨o2,o3,by rw[List.map_nil,zK];rfl⟩
 | z::zs,o2,o3,h=>by
  rw[List.map_cons,pJ (L1:=[d0,d1,some (.d z.1),some (.d z.2)]) _ _ _ _ rfl,List.all_cons]
  have hx:=h z List.mem_cons_self
  cases hz:eqb z.1 z.2 with
  | true =>
   obtain⟨o2',o3',e⟩:=ym (m:=m) (d0:=d0) (d1:=d1) zs (some (.d z.1)) (some (.d z.2)) λ y hy=>h y (List.mem_cons_of_mem _ hy);refine⟨o2',o3',?_⟩;rw[hz]at hx
   have step:gIf (gNot (gB (gFz (gCall m [.d (gVar 2),.d (gVar 3)])))) (gRet (gD (gC (.bool false)))) gNext [d0,d1,some (.d z.1),some (.d z.2)]=.ok .nx [d0,d1,some (.d z.1),some (.d z.2)]:=by
    simp only[VS.evs,Nat.reduceAdd,Nat.reduceLT,Nat.reduceLeDiff,Nat.reduceSub,Nat.reduceEqDiff,hx]
   rw[step,rK,e,Bool.true_and]
  | false =>
   refine⟨some (.d z.1),some (.d z.2),?_⟩;rw[hz]at hx
   have step:gIf (gNot (gB (gFz (gCall m [.d (gVar 2),.d (gVar 3)])))) (gRet (gD (gC (.bool false)))) gNext [d0,d1,some (.d z.1),some (.d z.2)]=.ok (.rt (.d (.bool false))) [d0,d1,some (.d z.1),some (.d z.2)]:=by
    simp only[VS.evs,Nat.reduceAdd,Nat.reduceLT,Nat.reduceLeDiff,Nat.reduceSub,Nat.reduceEqDiff,hx]
   rw[step]
   rfl
theorem uJ (xs ys:List D):zipD xs ys=(xs.zip ys).map λ z=>.tuple [z.1,z.2]:=rfl
theorem aa2:∀ {xs ys:List D},xs.length=ys.length->(((xs.zip ys).all λ z=>eqb z.1 z.2)=true↔xs=ys)
 | [],[],_=>by simp
 | [],_::_,h=>by cases h
 | _::_,[],h=>by cases h
 | x::xs,y::ys,h=>by
  rw[List.zip_cons_cons,List.all_cons,Bool.and_eq_true,aa1,aa2 (xs:=xs) (ys:=ys) (by simpa using h)]
  simp
theorem tfd:(!decide ((true:Bool)=false))=true:=rfl
theorem ftd:(!decide ((false:Bool)=true))=true:=rfl
theorem yo:∀ (k:Nat) (d e:D),Pl k d->Pl k e->iG k [some (.d d),some (.d e)]=.ok (.d (.bool (eqb d e))) [none,none]
 | 0,_,_,h,_=>h.elim
 | k+1,d,e,h,h'=>by
  rw[iG]
  cases e with
  | none =>
   cases d with
   | none=>rw[rO];simp only[VS.evs,Nat.reduceAdd,Nat.reduceLT,Nat.reduceLeDiff,Nat.reduceSub,Nat.reduceEqDiff]
   | dict x=>exact h.elim
   | _=>rw[lw (by intro z;cases z)];simp only[VS.evs,Nat.reduceAdd,Nat.reduceLT,Nat.reduceLeDiff,Nat.reduceSub,Nat.reduceEqDiff]
  | bool b =>
   cases d with
   | bool c =>
    have:eqb (.bool c) (.bool b)=decide (c=b):=by
     by_cases z:c=b
     ·rw[z,rO];simp
     ·rw[lw (λ q=>z (by cases q;rfl))];simp[z]
    rw[this]
    simp only[VS.evs,Nat.reduceAdd,Nat.reduceLT,Nat.reduceLeDiff,Nat.reduceSub,Nat.reduceEqDiff]
   | dict x=>exact h.elim
   | _=>rw[lw (by intro z;cases z)];simp only[VS.evs,Nat.reduceAdd,Nat.reduceLT,Nat.reduceLeDiff,Nat.reduceSub,Nat.reduceEqDiff]
  | int i =>
   cases d with
   | int j =>
    have:eqb (.int j) (.int i)=decide (j=i):=by
     by_cases z:j=i
     ·rw[z,rO];simp
     ·rw[lw (λ q=>z (by cases q;rfl))];simp[z]
    rw[this]
    simp only[VS.evs,Nat.reduceAdd,Nat.reduceLT,Nat.reduceLeDiff,Nat.reduceSub,Nat.reduceEqDiff,aeR]
   | none=>rw[lw (by intro z;cases z)];simp only[VS.evs,Nat.reduceAdd,Nat.reduceLT,Nat.reduceLeDiff,Nat.reduceSub,Nat.reduceEqDiff,rP (d:=.none) (by intro i z;cases z) (by intro i z;cases z)]
   | bool x=>rw[lw (by intro z;cases z)];simp only[VS.evs,Nat.reduceAdd,Nat.reduceLT,Nat.reduceLeDiff,Nat.reduceSub,Nat.reduceEqDiff,rP (d:=.bool x) (by intro i z;cases z) (by intro i z;cases z)]
   | str x=>rw[lw (by intro z;cases z)];simp only[VS.evs,Nat.reduceAdd,Nat.reduceLT,Nat.reduceLeDiff,Nat.reduceSub,Nat.reduceEqDiff,rP (d:=.str x) (by intro i z;cases z) (by intro i z;cases z)]
   | list x=>rw[lw (by intro z;cases z)];simp only[VS.evs,Nat.reduceAdd,Nat.reduceLT,Nat.reduceLeDiff,Nat.reduceSub,Nat.reduceEqDiff,rP (d:=.list x) (by intro i z;cases z) (by intro i z;cases z)]
   | tuple x=>rw[lw (by intro z;cases z)];simp only[VS.evs,Nat.reduceAdd,Nat.reduceLT,Nat.reduceLeDiff,Nat.reduceSub,Nat.reduceEqDiff,rP (d:=.tuple x) (by intro i z;cases z) (by intro i z;cases z)]
   | dict x=>exact h.elim
  | str s =>
   cases d with
   | str t =>
    have:eqb (.str t) (.str s)=decide (t=s):=by
     by_cases z:t=s
     ·rw[z,rO];simp
     ·rw[lw (λ q=>z (by cases q;rfl))];simp[z]
    rw[this]
    simp only[VS.evs,Nat.reduceAdd,Nat.reduceLT,Nat.reduceLeDiff,Nat.reduceSub,Nat.reduceEqDiff]
   | dict x=>exact h.elim
   | _=>rw[lw (by intro z;cases z)];simp only[VS.evs,Nat.reduceAdd,Nat.reduceLT,Nat.reduceLeDiff,Nat.reduceSub,Nat.reduceEqDiff]
  | list ys =>
   cases d with
   | list xs =>
    by_cases hl:xs.length=ys.length
    ·obtain⟨o2,o3,e⟩:=ym (m:=iG k) (d0:=some (.d (.list xs))) (d1:=some (.d (.list ys))) (xs.zip ys) none none λ z hz=>yo k z.1 z.2 (h _ (List.of_mem_zip hz).1) (h' _ (List.of_mem_zip hz).2)
     have key:eqb (.list xs) (.list ys)=((xs.zip ys).all λ z=>eqb z.1 z.2):=by
      rw[Bool.eq_iff_iff,aa1,aa2 hl];exact⟨λ z=>by cases z;rfl,λ z=>by rw[z]⟩
     rw[key]
     cases hb:((xs.zip ys).all λ z=>eqb z.1 z.2) with
     | true=>rw[hb]at e;simp only[VS.evs,Nat.reduceAdd,Nat.reduceLT,Nat.reduceLeDiff,Nat.reduceSub,Nat.reduceEqDiff,uJ,e,hl]
     | false=>rw[hb]at e;simp only[VS.evs,Nat.reduceAdd,Nat.reduceLT,Nat.reduceLeDiff,Nat.reduceSub,Nat.reduceEqDiff,uJ,e,hl]
    ·rw[lw (λ z=>hl (by cases z;rfl))]
     have hi:((xs.length:Nat):Int)≠((ys.length:Nat):Int):=by omega
     simp only[VS.evs,Nat.reduceAdd,Nat.reduceLT,Nat.reduceLeDiff,Nat.reduceSub,Nat.reduceEqDiff,hi,decide_false,Bool.not_false]
   | dict x=>exact h.elim
   | _=>rw[lw (by intro z;cases z)];simp only[VS.evs,Nat.reduceAdd,Nat.reduceLT,Nat.reduceLeDiff,Nat.reduceSub,Nat.reduceEqDiff,tfd,ftd]
  | tuple ys =>
   cases d with
   | tuple xs =>
    by_cases hl:xs.length=ys.length
    ·obtain⟨o2,o3,e⟩:=ym (m:=iG k) (d0:=some (.d (.tuple xs))) (d1:=some (.d (.tuple ys))) (xs.zip ys) none none λ z hz=>yo k z.1 z.2 (h _ (List.of_mem_zip hz).1) (h' _ (List.of_mem_zip hz).2)
     have key:eqb (.tuple xs) (.tuple ys)=((xs.zip ys).all λ z=>eqb z.1 z.2):=by
      rw[Bool.eq_iff_iff,aa1,aa2 hl];exact⟨λ z=>by cases z;rfl,λ z=>by rw[z]⟩
     rw[key]
     cases hb:((xs.zip ys).all λ z=>eqb z.1 z.2) with
     | true=>rw[hb]at e;simp only[VS.evs,Nat.reduceAdd,Nat.reduceLT,Nat.reduceLeDiff,Nat.reduceSub,Nat.reduceEqDiff,uJ,e,hl]
     | false=>rw[hb]at e;simp only[VS.evs,Nat.reduceAdd,Nat.reduceLT,Nat.reduceLeDiff,Nat.reduceSub,Nat.reduceEqDiff,uJ,e,hl]
    ·rw[lw (λ z=>hl (by cases z;rfl))]
     have hi:((xs.length:Nat):Int)≠((ys.length:Nat):Int):=by omega
     simp only[VS.evs,Nat.reduceAdd,Nat.reduceLT,Nat.reduceLeDiff,Nat.reduceSub,Nat.reduceEqDiff,hi,decide_false,Bool.not_false]
   | dict x=>exact h.elim
   | _=>rw[lw (by intro z;cases z)];simp only[VS.evs,Nat.reduceAdd,Nat.reduceLT,Nat.reduceLeDiff,Nat.reduceSub,Nat.reduceEqDiff,tfd,ftd]
  | dict _=>exact h'.elim
end Lw
namespace Lw
open PySem PySem.Spec PyProof.Rows L2 VS
def vq:LS->R O:=(gSeq (gAsg 1 (gD (gIxP 0 (gC (.int 0)))))
  (gSeq (gAsg 2 (gD (gC (.str " +"))))
  (gSeq (gFor (λ L=>((gFz (gSl (gPeek 0) (gSo (gC (.int 1))) gNo)) L).bind fH) (fName 3) (gIf (gB (gIsi "list" (gPeek 3))) (gSeq (gAsg 1 (gOp dAdd (gVar 1) (gVar 2)))
  (gSeq (gAsg 2 (gD (gC (.str " -"))))
  (gFor (λ L=>((gVar 3) L).bind fH) (fName 4) (gAsg 1 (gOp dAdd (gFz (gOp dAdd (gVar 1) (gC (.str " ")))) (gVar 4)))))) (gAsg 1 (gOp dAdd (gFz (gOp dAdd (gVar 1) (gC (.str " ")))) (gUn dStr (gPeek 3))))))
  (gRet (gMove 1)))))
def lA:LS->R S:=runDef [false] 5 vq
def wO:LS->R O:=(gSeq (gAsg 1 (gDlitN (gPCons (gC (.str "come")) (gC (.str "abb")) (gPCons (gC (.str "rise")) (gC (.str "abb")) (gPCons (gC (.str "die")) (gC (.str "aba")) (gPCons (gC (.str "penance")) (gC (.str "a")) (gPCons (gC (.str "bring")) (gC (.str "ab")) (gPCons (gC (.str "give")) (gC (.str "baab")) gPNil))))))))
  (gSeq (gAsg 2 (gDlitN (gPCons (gC (.str "pay")) (gC (.str "aabb")) (gPCons (gC (.str "claim")) (gC (.str "abbb+")) (gPCons (gC (.str "wergild")) (gC (.str "aabbb+")) (gPCons (gC (.str "accuse")) (gC (.str "babb+")) gPNil))))))
  (gRet (gD (gDGetX 1 (gVar 0) (gDGetX 2 (gVar 0) (gC .none)))))))
def jK:LS->R S:=runDef [false] 3 wO
def mQ:LS->R O:=(gSeq (gIf (gOr (gB (gOp dEq (gPeek 0) (gC (.str "")))) (gOr (gB (gOp dGt (gUn dLen (gPeek 0)) (gC (.int 9)))) (gAnd (gB (gOp dEq (gIxP 0 (gC (.int 0))) (gC (.str "0")))) (gB (gOp dNe (gPeek 0) (gC (.str "0"))))))) (gRet (gD (gC .none))) gNext)
  (gSeq (gFor (λ L=>((gVar 0) L).bind fH) (fName 1) (gIf (gNot (gAnd (gB (gOp dLe (gC (.str "0")) (gPeek 1))) (gB (gOp dLe (gPeek 1) (gC (.str "9")))))) (gRet (gD (gC .none))) gNext))
  (gRet (gD (gUn dIntS (gPeek 0))))))
def fJ:LS->R S:=runDef [false] 2 mQ
def oR:LS->R O:=(gSeq (gFor (λ L=>((gVar 0) L).bind fH) (fName 1) (gIf (gNot (gAnd (gB (gOp dLe (gC (.str "a")) (gPeek 1))) (gB (gOp dLe (gPeek 1) (gC (.str "z")))))) (gRet (gD (gC .none))) gNext))
  (gSeq (gIf (gOr (gB (gOp dLt (gUn dLen (gPeek 0)) (gC (.int 1)))) (gB (gOp dGt (gUn dLen (gPeek 0)) (gC (.int 12))))) (gRet (gD (gC .none))) gNext)
  (gRet (gMove 0))))
def cO:LS->R S:=runDef [false] 2 oR
def oU:LS->R O:=(gSeq (gIf (gB (gOp dEq (gPeek 0) (gC (.str "a")))) (gRet (gCall Lw.cO [.d (gVar 1)])) gNext)
  (gRet (gCall Lw.fJ [.d (gVar 1)])))
def gY:LS->R S:=runDef Q1 2 oU
def oE:LS->R O:=(gSeq (gIf (gOr (gB (gOp dLt (gUn dLen (gPeek 0)) (gC (.int 2)))) (gOr (gB (gOp dNe (gIxP 0 (gC (.int 0))) (gC (.str "+")))) (gB (gOp dNotIn (gC (.str "-")) (gPeek 0))))) (gRet (gD (gC .none))) gNext)
  (gSeq (gAsg 1 (gD (yf (gPeek 0) (gC (.str "-")))))
  (gSeq (gAsg 2 (gLc [4] (λ L=>((gFz (gSl (gPeek 0) (gSo (gC (.int 1))) (gSo (gVar 1)))) L).bind fH) (fName 4) gYes (gFz (gCall Lw.cO [.d (gVar 4)]))))
  (gSeq (gAsg 3 (gLc [4] (λ L=>((gFz (gSl (gPeek 0) (gSo (gFz (gOp dAdd (gVar 1) (gC (.int 1))))) gNo)) L).bind fH) (fName 4) gYes (gFz (gCall Lw.cO [.d (gVar 4)]))))
  (gSeq (gIf (gOr (gB (gOp dIn (gC .none) (gPeek 2))) (gB (gOp dIn (gC .none) (gPeek 3)))) (gRet (gD (gC .none))) gNext)
  (gRet (gLst (gCons (gVar 2) (gCons (gVar 3) gNil)))))))))
def gj:LS->R S:=runDef [false] 5 oE
def wQ:LS->R O:=(gSeq (gAsg 1 (gSplit (gVar 0) (gC (.str " "))))
  (gSeq (gAsg 2 (gCall Lw.jK [.d (gIxP 1 (gC (.int 0)))]))
  (gSeq (gIf (gB (gOp dIs (gPeek 2) (gC .none))) (gRet (gD (gC .none))) gNext)
  (gSeq (gAsg 3 (gD (gUn (dReplC "+" "") (gVar 2))))
  (gSeq (gAsg 4 (gSl (gPeek 1) (gSo (gFz (gOp dAdd (gC (.int 1)) (gUn dLen (gPeek 3))))) gNo))
  (gSeq (gIf (gOr (gB (gOp dLt (gUn dLen (gPeek 1)) (gFz (gOp dAdd (gC (.int 1)) (gUn dLen (gPeek 3)))))) (gAnd (gB (gOp dEq (gPeek 3) (gPeek 2))) (gB (gOp dGt (gUn dLen (gPeek 4)) (gC (.int 0)))))) (gRet (gD (gC .none))) gNext)
  (gSeq (gAsg 5 (gLc [7,8] (λ L=>((gCons (gVar 3) (gCons (gFz (gSl (gPeek 1) (gSo (gC (.int 1))) gNo)) gNil)) L).bind asZg) (fTup 2 (fCons (fName 7) (fCons (fName 8) fNil))) gYes (gFz (gCall Lw.gY [.d (gVar 7),.d (gVar 8)]))))
  (gSeq (gIf (gB (gOp dNe (gPeek 3) (gPeek 2))) (gSeq (gAsg 6 (gCall Lw.gj [.d (gVar 4)]))
  (gSeq (gIf (gB (gOp dIs (gPeek 6) (gC .none))) (gRet (gD (gC .none))) gNext)
  (gAsg 5 (gOp dAdd (gVar 5) (gVar 6))))) gNext)
  (gSeq (gIf (gB (gOp dIn (gC .none) (gPeek 5))) (gRet (gD (gC .none))) gNext)
  (gRet (gD (gUn dTupL (gFz (gOp dAdd (gFz (gLst (gCons (gIxP 1 (gC (.int 0))) gNil))) (gVar 5)))))))))))))))
def mU:LS->R S:=runDef [false] 9 wQ
def pU:LS->R O:=(gSeq (gIf (gNot (gB (gFz (gCall Lw.mJ [.d (gVar 0)])))) (gRaise 20) gNext)
  (gRet (gMove 0)))
def dM:LS->R S:=runDef [false] 1 pU
def oV:LS->R O:=(gSeq (gIf (gOr (gB (gOp dLt (gUn dLen (gPeek 0)) (gC (.int 2)))) (gOr (gB (gOp dNe (gIxP 0 (gC (.int 0))) (gC (.str "+")))) (gB (gOp dNe (gCount (gPeek 0) (gC (.str "-"))) (gC (.int 1)))))) (gRaise 20) gNext)
  (gSeq (gAsg 1 (gD (yf (gPeek 0) (gC (.str "-")))))
  (gSeq (gAsg 2 (gLcR [4] (λ L=>((gFz (gSl (gPeek 0) (gSo (gC (.int 1))) (gSo (gVar 1)))) L).bind fH) (fName 4) gYes (gFz (gCall Lw.dM [.d (gVar 4)]))))
  (gSeq (gAsg 3 (gLcR [4] (λ L=>((gFz (gSl (gPeek 0) (gSo (gFz (gOp dAdd (gVar 1) (gC (.int 1))))) gNo)) L).bind fH) (fName 4) gYes (gFz (gCall Lw.dM [.d (gVar 4)]))))
  (gRet (gLst (gCons (gVar 2) (gCons (gVar 3) gNil))))))))
def ie:LS->R S:=runDef [false] 5 oV
def oF:LS->R O:=(gSeq (gIf (gOr (gB (gOp dLt (gUn dLen (gPeek 0)) (gC (.int 1)))) (gOr (gB (gOp dGt (gUn dLen (gPeek 0)) (gC (.int 9)))) (gAnd (gB (gOp dEq (gIxP 0 (gC (.int 0))) (gC (.str "0")))) (gB (gOp dGt (gUn dLen (gPeek 0)) (gC (.int 1))))))) (gRaise 20) gNext)
  (gSeq (gFor (λ L=>((gVar 0) L).bind fH) (fName 1) (gIf (gB (gOp dNotIn (gPeek 1) (gC (.str "0123456789")))) (gRaise 20) gNext))
  (gRet (gD (gUn dIntS (gPeek 0))))))
def gq:LS->R S:=runDef [false] 2 oF
def oW:LS->R O:=(gSeq (gIf (gB (gOp dNe (gUn dLen (gPeek 0)) (gUn dLen (gPeek 1)))) (gRaise 20) gNext)
  (gSeq (gAsg 2 (gLst gNil))
  (gSeq (gFor (λ L=>((gCons (gVar 0) (gCons (gVar 1) gNil)) L).bind asZg) (fTup 2 (fCons (fName 3) (fCons (fName 4) fNil))) (gIf (gB (gOp dEq (gPeek 4) (gC (.str "a")))) (gDrop (gApp 2 (gFz (gCall Lw.dM [.d (gVar 3)])))) (gDrop (gApp 2 (gFz (gCall Lw.gq [.d (gVar 3)]))))))
  (gRet (gMove 2)))))
def fK:LS->R S:=runDef Q1 5 oW
def pW:LS->R O:=(gSeq (gAsg 1 (gSplit (gVar 0) (gC (.str " "))))
  (gSeq (gIf (gB (gUn (aaV [("come","abb"),("rise","abb"),("die","aba"),("penance","a"),("bring","ab"),("give","baab"),("pay","aabb"),("claim","abbb"),("wergild","aabbb"),("accuse","babb")]) (gIxP 1 (gC (.int 0))))) (gRaise 20) gNext)
  (gSeq (gAsg 2 (gD (gUn (dTab [("come","abb"),("rise","abb"),("die","aba"),("penance","a"),("bring","ab"),("give","baab"),("pay","aabb"),("claim","abbb"),("wergild","aabbb"),("accuse","babb")]) (gIxP 1 (gC (.int 0))))))
  (gSeq (gIf (gB (gOp dNotIn (gIxP 1 (gC (.int 0))) (gC (.tuple [.str "claim",.str "wergild",.str "accuse"])))) (gRet (gD (gUn dTupL (gFz (gOp dAdd (gFz (gLst (gCons (gIxP 1 (gC (.int 0))) gNil))) (gFz (gCall Lw.fK [.d (gFz (gSl (gPeek 1) (gSo (gC (.int 1))) gNo)),.d (gVar 2)]))))))) gNext)
  (gSeq (gAsg 3 (gOp dAdd (gC (.int 1)) (gUn dLen (gPeek 2))))
  (gRet (gD (gUn dTupL (gFz (gOp dAdd (gFz (gOp dAdd (gFz (gLst (gCons (gIxP 1 (gC (.int 0))) gNil))) (gFz (gCall Lw.fK [.d (gFz (gSl (gPeek 1) (gSo (gC (.int 1))) (gSo (gVar 3)))),.d (gVar 2)])))) (gFz (gCall Lw.ie [.d (gFz (gSl (gPeek 1) (gSo (gVar 3)) gNo))]))))))))))))
def iU:LS->R S:=runDef [false] 4 pW
def vz:LS->R O:=(gSeq (gAsg 1 (gLst (gCons (gC (.str "told")) (gCons (gC .none) gNil))))
  (gSeq (gTry 2 [20] (gAsg 1 (gLst (gCons (gC (.str "told")) (gCons (gFz (gCall Lw.iU [.d (gVar 0)])) gNil)))) (λ k_=>(gAsg 1 (gLst (gCons (gC (.str "refused")) (gCons (gAndV (gC (.bool (decide (k_=20)))) (gC (.bool true))) gNil))))))
  (gRet (gMove 1))))
def jL:LS->R S:=runDef [false] 3 vz
def oX:LS->R O:=(gSeq (gAsg 1 (gCall Lw.az [.r 0,.d (gC (.int 4))]))
  (gSeq (gIf (gB (gOp dEq (gPeek 1) (gC (.int 0)))) (gRet (gD (gOp dIx (gFz (gLst (gCons (gC (.int 0)) (gCons (gC (.int 9)) (gCons (gC (.int 10)) (gCons (gC (.int 999999999)) (gCons (gC (.int 100000000)) (gCons (gC (.int 99)) gNil)))))))) (gFz (gCall Lw.az [.r 0,.d (gC (.int 6))]))))) gNext)
  (gSeq (gIf (gB (gOp dEq (gPeek 1) (gC (.int 1)))) (gRet (gCall Lw.az [.r 0,.d (gC (.int 1000000000))])) gNext)
  (gRet (gCall Lw.az [.r 0,.d (gC (.int 30))])))))
def ig:LS->R S:=runDef [true] 2 oX
def z8:LS->R O:=(gRet (gLc [2] (λ L=>((gCons (gFz (gCall Lw.az [.r 0,.d (gOp dIx (gFz (gLst (gCons (gC (.int 3)) (gCons (gC (.int 3)) (gCons (gC (.int 3)) (gCons (gC (.int 16)) gNil)))))) (gFz (gCall Lw.az [.r 0,.d (gC (.int 4))])))])) gNil) L).bind abJ) (fName 2) gYes (gIxP 1 (gFz (gCall Lw.az [.r 0,.d (gUn dLen (gPeek 1))])))))
def mV:LS->R S:=runDef Q2 3 z8
def pX:LS->R O:=(gSeq (gAsg 2 (gLst (gCons (gC (.str "come")) (gCons (gC (.str "rise")) (gCons (gC (.str "die")) (gCons (gC (.str "penance")) (gCons (gC (.str "bring")) (gCons (gC (.str "give")) (gCons (gC (.str "pay")) (gCons (gC (.str "claim")) (gCons (gC (.str "wergild")) (gCons (gC (.str "accuse")) gNil))))))))))))
  (gSeq (gAsg 3 (gD (gIxP 2 (gFz (gCall Lw.az [.r 0,.d (gC (.int 10))])))))
  (gSeq (gAsg 4 (gLst (gCons (gVar 3) gNil)))
  (gSeq (gFor (λ L=>((gFz (gCall Lw.jK [.d (gVar 3)])) L).bind fH) (fName 5) (gIf (gB (gOp dEq (gPeek 5) (gC (.str "a")))) (gDrop (gApp 4 (gIxP 1 (gFz (gCall Lw.az [.r 0,.d (gUn dLen (gPeek 1))]))))) (gIf (gB (gOp dEq (gPeek 5) (gC (.str "b")))) (gDrop (gApp 4 (gFz (gCall Lw.ig [.r 0])))) (gAsg 4 (gOp dAdd (gVar 4) (gFz (gLst (gCons (gFz (gCall Lw.mV [.r 0,.r 1])) (gCons (gFz (gCall Lw.mV [.r 0,.r 1])) gNil)))))))))
  (gRet (gD (gUn dTupL (gPeek 4))))))))
def iV:LS->R S:=runDef Q2 6 pX
def tZ:LS->R O:=(gSeq (gAsg 2 (gD (gC (.str " !\"#$&'()*+,-./0123456789:;<=>?@ABCDEFGHIJKLMNOPQRSTUVWXYZ[\\]^_`abcdefghijklmnopqrstuvwxyz{|}~"))))
  (gSeq (gAsg 3 (gCall Lw.az [.r 0,.d (gC (.int 7))]))
  (gSeq (gAsg 4 (gCall Lw.az [.r 0,.d (gFz (gOp dAdd (gUn dLen (gPeek 1)) (gC (.int 1))))]))
  (gSeq (gAsg 5 (gD (gIxP 2 (gFz (gCall Lw.az [.r 0,.d (gUn dLen (gPeek 2))])))))
  (gSeq (gIf (gB (gOp dEq (gFz (gCall Lw.az [.r 0,.d (gC (.int 2))])) (gC (.int 0)))) (gAsg 5 (gD (gOp dIx (gC (.str " 0a+-")) (gFz (gCall Lw.az [.r 0,.d (gC (.int 5))]))))) gNext)
  (gSeq (gAsg 6 (gSplit (gVar 1) (gC (.str " "))))
  (gSeq (gAsg 7 (gCall Lw.az [.r 0,.d (gUn dLen (gPeek 6))]))
  (gSeq (gIf (gB (gOp dEq (gPeek 3) (gC (.int 0)))) (gRet (gOp dAdd (gFz (gOp dAdd (gFz (gSl (gPeek 1) gNo (gSo (gVar 4)))) (gVar 5))) (gFz (gSl (gPeek 1) (gSo (gVar 4)) gNo)))) gNext)
  (gSeq (gIf (gB (gOp dEq (gPeek 3) (gC (.int 1)))) (gRet (gOp dAdd (gFz (gSl (gPeek 1) gNo (gSo (gVar 4)))) (gFz (gSl (gPeek 1) (gSo (gFz (gOp dAdd (gVar 4) (gC (.int 1))))) gNo)))) gNext)
  (gSeq (gIf (gB (gOp dEq (gPeek 3) (gC (.int 2)))) (gRet (gOp dAdd (gFz (gOp dAdd (gFz (gSl (gPeek 1) gNo (gSo (gVar 4)))) (gVar 5))) (gFz (gSl (gPeek 1) (gSo (gFz (gOp dAdd (gVar 4) (gC (.int 1))))) gNo)))) gNext)
  (gSeq (gIf (gB (gOp dEq (gPeek 3) (gC (.int 3)))) (gRet (gD (gJoin (gC (.str " ")) (gFz (gOp dAdd (gFz (gSl (gPeek 6) gNo (gSo (gVar 7)))) (gFz (gSl (gPeek 6) (gSo (gFz (gOp dAdd (gVar 7) (gC (.int 1))))) gNo))))))) gNext)
  (gSeq (gIf (gB (gOp dEq (gPeek 3) (gC (.int 4)))) (gRet (gD (gJoin (gC (.str " ")) (gFz (gOp dAdd (gFz (gOp dAdd (gFz (gSl (gPeek 6) gNo (gSo (gVar 7)))) (gFz (gLst (gCons (gIxP 6 (gVar 7)) gNil))))) (gFz (gSl (gPeek 6) (gSo (gVar 7)) gNo))))))) gNext)
  (gSeq (gIf (gB (gOp dEq (gPeek 3) (gC (.int 5)))) (gRet (gD (gJoin (gC (.str " ")) (gFz (gOp dAdd (gFz (gOp dAdd (gFz (gSl (gPeek 6) gNo (gSo (gVar 7)))) (gFz (gSl (gPeek 6) (gSo (gFz (gOp dAdd (gVar 7) (gC (.int 1))))) gNo)))) (gFz (gLst (gCons (gIxP 6 (gVar 7)) gNil)))))))) gNext)
  (gRet (gSl (gPeek 1) gNo (gSo (gVar 4)))))))))))))))))
def jV:LS->R S:=runDef Q2 8 tZ
def wR:LS->R O:=(gSeq (gAsg 1 (gCall Lw.mK [.r 0]))
  (gSeq (gAsg 2 (gD (gFz (gCall Lw.jj [.r 1,.d (gFz (gOp dAdd (gC (.int 1)) (gFz (gCall Lw.az [.r 1,.d (gC (.int 4))]))))]))))
  (gSeq (gFor (λ L=>((gCons (gC (.int 4)) gNil) L).bind abJ) (fName 3) (gSeq (gAsg 4 (gD (gFz (gCall Lw.lA [.d (gFz (gCall Lw.iV [.r 1,.r 2]))]))))
  (gSeq (gFor (λ L=>((gCons (gFz (gCall Lw.az [.r 1,.d (gC (.int 4))])) gNil) L).bind abJ) (fName 5) (gAsg 4 (gD (gFz (gCall Lw.jV [.r 1,.r 4])))))
  (gSeq (gAsg 6 (gD (gFz (gCall Lw.mU [.d (gVar 4)]))))
  (gSeq (gAsg 7 (gD (gFz (gCallG Lw.jL [.d (gVar 4)] []))))
  (gIf (gB (gOp dIs (gPeek 6) (gC .none))) (gIf (gB (gOp dNe (gPeek 7) (gFz (gLst (gCons (gC (.str "refused")) (gCons (gC (.bool true)) gNil)))))) (gRet (gD (gC (.bool false)))) gNext) (gIf (gNot (gB (gFz (gCall (Lw.iG 12) [.d (gVar 7),.d (gFz (gLst (gCons (gC (.str "told")) (gCons (gVar 6) gNil))))])))) (gRet (gD (gC (.bool false)))) gNext)))))))
  (gRet (gD (gC (.bool true)))))))
def jx:LS->R S:=runDef [true] 8 wR
end Lw
namespace VS
open PySem PySem.Spec PyProof.Rows L2
inductive T (ε α:Type) where
 | ok (a:α)
 | er (c:Nat) (e:ε)
 | no
namespace T
variable {ε ε' α β γ ν ρ:Type}
def bind (t:T ε α)(k:α->T ε β):T ε β:=match t with
 | .ok a=>k a
 | .er c e=>.er c e
 | .no=>.no
theorem ok_bind (a:α)(k:α->T ε β):(T.ok a).bind k=k a:=rfl
def ofO (o:Option α):T ε α:=match o with
 | some a=>.ok a
 | none=>.no
@[irreducible] def gd (p:Prop)[Decidable p](t:T ε α):T ε α:=if p then t else .no
theorem gd_of {p:Prop}[Decidable p](h:p)(t:T ε α):gd p t=t:=by
 unfold gd;exact if_pos h
def lift (f:ε'->ε)(t:T ε' α):T ε α:=match t with
 | .ok a=>.ok a
 | .er c e=>.er c (f e)
 | .no=>.no
def forM:List α->ν->(α->ν->T ε ν)->T ε ν
 | [],v,_=>.ok v
 | x::xs,v,f=>(f x v).bind λ v'=>forM xs v' f
inductive Lp (ν ρ:Type) where
 | nx (v:ν)
 | bk (v:ν)
 | rt (r:ρ)
inductive Le (ν ρ:Type) where
 | nx (v:ν)
 | rt (r:ρ)
def forL:List α->ν->(α->ν->T ε (Lp ν ρ))->T ε (Le ν ρ)
 | [],v,_=>.ok (.nx v)
 | x::xs,v,f=>(f x v).bind λ r=>match r with
  | .nx v'=>forL xs v' f
  | .bk v'=>.ok (.nx v')
  | .rt r=>.ok (.rt r)
def bindL (t:T ε (Le ν ρ))(n:ν->T ε α)(r:ρ->T ε α):T ε α:=t.bind λ z=>match z with
 | .nx v=>n v
 | .rt x=>r x
theorem bindL_nx (v:ν)(n:ν->T ε α)(r:ρ->T ε α):bindL (.ok (.nx v)) n r=n v:=rfl
theorem bindL_rt (x:ρ)(n:ν->T ε α)(r:ρ->T ε α):bindL (.ok (.rt x)) n r=r x:=rfl
end T
def Mt (A L:LS):Prop:=L.length=A.length/\∀ (i:Nat) (s:S),A[i]?=some (some s)->L[i]?=some (some s)
theorem Mt.refl (A:LS):Mt A A:=⟨rfl,λ _ _ h=>h⟩
theorem Mt.trans {A B C:LS}(h:Mt A B)(k:Mt B C):Mt A C:=⟨k.1.trans h.1,λ i s e=>k.2 i s (h.2 i s e)⟩
theorem Mt.set {A L:LS}(h:Mt A L)(i:Nat)(x:Option S):Mt (A.set i x) (L.set i x):=⟨by rw[List.length_set,List.length_set];exact h.1,λ j s e=>by
 rcases jJ e with ⟨rfl,hs⟩ | ⟨hj,hs⟩
 ·have hlt:i < A.length:=by
   have:=(List.getElem?_eq_some_iff.mp e).1
   rwa [List.length_set]at this
  rw[List.getElem?_set_self (by rw[h.1];exact hlt),hs]
 ·rw[List.getElem?_set_ne hj]
  exact h.2 j s hs⟩
theorem Mt.off {A L:LS}(h:Mt A L)(i:Nat):Mt (A.set i none) L:=⟨by rw[List.length_set];exact h.1,λ j s e=>by
 rcases jJ e with ⟨_,hs⟩ | ⟨hj,hs⟩
 ·cases hs
 ·exact h.2 j s hs⟩
theorem Mt.offL {A L:LS}(h:Mt A L)(i:Nat)(x:Option S):Mt (A.set i none) (L.set i x):=⟨by rw[List.length_set,List.length_set];exact h.1,λ j s e=>by
 rcases jJ e with ⟨_,hs⟩ | ⟨hj,hs⟩
 ·cases hs
 ·rw[List.getElem?_set_ne hj]
  exact h.2 j s hs⟩
theorem ak:Mt [] []:=Mt.refl _
theorem fu {A L:LS}{x:Option S}(h:Mt A L):Mt (x::A) (x::L):=⟨by rw[List.length_cons,List.length_cons,h.1],λ i s e=>by
 cases i with
 | zero=>exact e
 | succ i=>exact h.2 i s e⟩
theorem bF {A L:LS}{x:Option S}(h:Mt A L):Mt (none::A) (x::L):=⟨by rw[List.length_cons,List.length_cons,h.1],λ i s e=>by
 cases i with
 | zero=>cases e
 | succ i=>exact h.2 i s e⟩
theorem jm {A L:LS}{a b c d:Option S}(h:Mt A L):Mt (a::b::c::d::A) (a::b::c::d::L):=fu (fu (fu (fu h)))
theorem jn {A L:LS}{a b c d:Option S}(h:Mt A L):Mt (a::b::c::none::A) (a::b::c::d::L):=fu (fu (fu (bF h)))
theorem oY {A L:LS}{a b c d:Option S}(h:Mt A L):Mt (a::b::none::none::A) (a::b::c::d::L):=fu (fu (bF (bF h)))
theorem qK {A L:LS}{a b c d:Option S}(h:Mt A L):Mt (a::none::none::none::A) (a::b::c::d::L):=fu (bF (bF (bF h)))
theorem aeS {A L:LS}{a b c d:Option S}(h:Mt A L):Mt (none::b::none::none::A) (a::b::c::d::L):=bF (fu (bF (bF h)))
theorem eY {A L:LS}{a b c d:Option S}(h:Mt A L):Mt (none::none::none::none::A) (a::b::c::d::L):=bF (bF (bF (bF h)))
theorem Mt.app {A L B M:LS}(h:Mt A L)(k:Mt B M):Mt (A++B) (L++M):=⟨by rw[List.length_append,List.length_append,h.1,k.1],λ i s e=>by
 by_cases hi:i < A.length
 ·rw[List.getElem?_append_left hi]at e;rw[List.getElem?_append_left (by rw[h.1];exact hi)];exact h.2 i s e
 ·rw[List.getElem?_append_right (Nat.le_of_not_lt hi)]at e;rw[List.getElem?_append_right (by rw[h.1];exact Nat.le_of_not_lt hi),h.1]
  exact k.2 _ s e⟩
theorem Mt.mask:∀ {md:List Bool} {A L:LS},Mt A L->Mt (maskL md A) (maskL md L)
 | [],A,L,h=>by cases A<;>cases L<;>exact ak
 | b::md,[],[],h=>Mt.refl _
 | b::md,[],_::_,h=>by cases h.1
 | b::md,_::_,[],h=>by cases h.1
 | b::md,x::A,y::L,h=>by
  have ht:Mt A L:=⟨Nat.succ.inj h.1,λ i s e=>h.2 (i+1) s e⟩
  show Mt ((if b then x else none)::maskL md A) ((if b then y else none)::maskL md L)
  cases b with
  | false=>exact fu (Mt.mask ht)
  | true =>
   cases x with
   | none=>exact bF (Mt.mask ht)
   | some s =>
    have:=h.2 0 s rfl
    have hy:y=some s:=Option.some.inj this
    rw[hy];exact fu (Mt.mask ht)
section
variable {ε ε' α β γ δ ω ω' ν ρ:Type}
def SimR (r:R ω)(t:T ε β)(F:β->ω)(B:β->LS)(X:ε->LS):Prop:=match t with
 | .ok b=>∃ L,r=.ok (F b) L/\Mt (B b) L
 | .er c e=>∃ L,r=.err c L/\Mt (X e) L
 | .no=>True
def SK (A:LS)(k:LS->R ω)(t:T ε β)(F:β->ω)(B:β->LS)(X:ε->LS):Prop:=∀ L,Mt A L->SimR (k L) t F B X
def Pu {α:Type}(A:LS)(g:LS->R α)(a:α):Prop:=∀ L,Mt A L->g L=.ok a L
structure Kont (ω:Type) where
 nx:LS->R ω
 rt:S->LS->R ω
 bk:LS->R ω
 ct:LS->R ω
def fin (K:Kont ω)(r:R O):R ω:=match r with
 | .ok .nx L=>K.nx L
 | .ok (.rt s) L=>K.rt s L
 | .ok .bk L=>K.bk L
 | .ok .ct L=>K.ct L
 | .err c L=>.err c L
 | .stuck=>.stuck
def Kont.next (K:Kont ω)(g:LS->R O):Kont ω:={ K with nx:=λ L=>fin K (g L) }
variable {A A':LS}{F:β->ω}{B:β->LS}{X:ε->LS}{t:T ε β}
theorem SK.weak {k:LS->R ω}(h:SK A' k t F B X)(m:Mt A' A):SK A k t F B X:=λ L hL=>h L (m.trans hL)
theorem oZ {w:ω}{b:β}(hw:w=F b)(hB:Mt (B b) A):SK A (λ L=>.ok w L) (.ok b) F B X:=λ L hL=>⟨L,by rw[hw],hB.trans hL⟩
theorem aaG {k:LS->R ω}:SK A k (.no) F B X:=λ _ _=>trivial
theorem aoE {k:LS->R ω}{p:Prop}[Decidable p](h:p->SK A k t F B X):SK A k (T.gd p t) F B X:=by
 unfold T.gd
 split
 ·exact h (by assumption)
 ·exact aaG
theorem aJ {g:LS->R α}{a:α}{k:α->LS->R ω}(h:Pu A g a)(h2:SK A (k a) t F B X):SK A (λ L=>(g L).bind k) t F B X:=λ L hL=>by
 show SimR ((g L).bind k) t F B X;rw[h L hL];exact h2 L hL
theorem cZ {a:α}{k:α->LS->R ω}(h2:SK A (k a) t F B X):SK A (λ L=>(R.ok a L).bind k) t F B X:=h2
theorem bx {r:R α}{k:α->LS->R γ}{j:γ->LS->R ω}:(r.bind k).bind j=r.bind λ a L=>(k a L).bind j:=by cases r<;>rfl
theorem iI {g:LS->R α}{k:α->LS->R γ}{j:γ->LS->R ω}(h:SK A (λ L=>(g L).bind λ a L1=>(k a L1).bind j) t F B X):SK A (λ L=>((g L).bind k).bind j) t F B X:=λ L hL=>by
 show SimR (((g L).bind k).bind j) t F B X;rw[bx];exact h L hL
theorem e_d {g:LS->R D}{k:S->LS->R ω}(h:SK A (λ L=>(g L).bind λ d L1=>k (.d d) L1) t F B X):SK A (λ L=>(gD g L).bind k) t F B X:=iI h
theorem jg {g:LS->R S}{k:D->LS->R ω}(h:SK A (λ L=>(g L).bind λ s L1=>(frS s L1).bind k) t F B X):SK A (λ L=>(gFz g L).bind k) t F B X:=iI h
theorem e_B {g:LS->R D}{k:Bool->LS->R ω}(h:SK A (λ L=>(g L).bind λ d L1=>(asB d L1).bind k) t F B X):SK A (λ L=>(gB g L).bind k) t F B X:=iI h
theorem apg {g:LS->R D}{k:Option Int->LS->R ω}(h:SK A (λ L=>(g L).bind λ d L1=>(asI d L1).bind k) t F B X):SK A (λ L=>(gSo g L).bind k) t F B X:=iI h
theorem lB {f:D->D->Option α}{ga gb:LS->R D}{k:α->LS->R ω}(h:SK A (λ L=>(ga L).bind λ d L1=>(gb L1).bind λ e L2=>(ofO (f d e) L2).bind k) t F B X):SK A (λ L=>(gOp f ga gb L).bind k) t F B X:=λ L hL=>by
 show SimR (((ga L).bind λ d L1=>(gb L1).bind λ e L2=>ofO (f d e) L2).bind k) t F B X;rw[bx]
 have:=h L hL
 dsimp only at this
 cases e:ga L with
 | stuck=>rw[e]at this;exact this
 | err c L1=>rw[e]at this;exact this
 | ok d L1 =>
  rw[e]at this;show SimR (((gb L1).bind λ e L2=>ofO (f d e) L2).bind k) t F B X;rw[bx];exact this
theorem wy {f:D->Option α}{ga:LS->R D}{k:α->LS->R ω}(h:SK A (λ L=>(ga L).bind λ d L1=>(ofO (f d) L1).bind k) t F B X):SK A (λ L=>(gUn f ga L).bind k) t F B X:=iI h
theorem e_o {o:Option α}{z:α}{k:α->LS->R ω}(h:o=some z)(h2:SK A (k z) t F B X):SK A (λ L=>(ofO o L).bind k) t F B X:=by
 rw[h];exact h2
theorem gH {o:Option α}{p:Option γ}{f:γ->α}{k:α->LS->R ω}{t':γ->T ε β}(h:o=p.map f)(h2:∀ z,SK A (k (f z)) (t' z) F B X):SK A (λ L=>(ofO o L).bind k) ((T.ofO p).bind t') F B X:=by
 rw[h]
 cases p with
 | none=>exact aaG
 | some z=>exact h2 z
theorem lC {a:LS->R D}{r:LS->R (List D)}{k:List D->LS->R ω}(h:SK A (λ L=>(a L).bind λ d L1=>(r L1).bind λ ds L2=>k (d::ds) L2) t F B X):SK A (λ L=>(gCons a r L).bind k) t F B X:=λ L hL=>by
 show SimR (((a L).bind λ d L1=>(r L1).bind λ ds L2=>R.ok (d::ds) L2).bind k) t F B X;rw[bx]
 have:=h L hL
 dsimp only at this
 cases e:a L with
 | stuck=>rw[e]at this;exact this
 | err c L1=>rw[e]at this;exact this
 | ok d L1 =>
  rw[e]at this;show SimR (((r L1).bind λ ds L2=>R.ok (d::ds) L2).bind k) t F B X;rw[bx];exact this
theorem yq {a:LS->R (List D)}{k:S->LS->R ω}(h:SK A (λ L=>(a L).bind λ ds L1=>(if ds.length<=sizeLine then R.ok (S.ol ds) L1 else .stuck).bind k) t F B X):SK A (λ L=>(gLst a L).bind k) t F B X:=iI h
theorem rQ {p:Prop}[Decidable p]{r:LS->R α}{k:α->LS->R ω}(hp:p)(h:SK A (λ L=>(r L).bind k) t F B X):SK A (λ L=>(if p then r L else R.stuck).bind k) t F B X:=by
 simp only[if_pos hp]
 exact h
theorem t7 {i:Nat}{ds:List D}{k:D->LS->R ω}(h:A[i]?=some (some (.ol ds)))(h2:SK (A.set i (some (.d (.list ds)))) (k (.list ds)) t F B X):SK A (λ L=>(gVar i L).bind k) t F B X:=λ L hL=>by
 show SimR ((gVar i L).bind k) t F B X;unfold gVar;rw[hL.2 i _ h];exact h2 _ (hL.set i _)
theorem z9 {i:Nat}{s:S}{k:S->LS->R ω}(h:A[i]?=some (some s))(hs:∀ ns,s≠.scr ns)(h2:SK (A.set i none) (k s) t F B X)(hb:s.own=true:=by rfl):SK A (λ L=>(gMove i L).bind k) t F B X:=λ L hL=>by
 show SimR ((gMove i L).bind k) t F B X;unfold gMove;rw[hL.2 i _ h]
 cases s with
 | d d=>exact h2 _ (hL.off i)
 | scr ns=>exact absurd rfl (hs ns)
 | ol _=>exact h2 _ (hL.offL i _)
 | odK _=>exact h2 _ (hL.offL i _)
 | odT _=>exact h2 _ (hL.offL i _)
 | ob _ _=>exact h2 _ (hL.offL i _)
 | os _=>exact h2 _ (hL.offL i _)
 | ot _=>exact h2 _ (hL.offL i _)
 | b _=>cases hb
 | bl _=>cases hb
theorem amC {a:LS->R Bool}{k:Bool->LS->R ω}(h:SK A (λ L=>(a L).bind λ x L1=>k (!x) L1) t F B X):SK A (λ L=>(gNot a L).bind k) t F B X:=iI h
theorem amD {g:LS->R α}{k:α->LS->R ω}{t1:T ε γ}{F1:γ->α}{B1:γ->LS}{t':γ->T ε β}(h1:SK A g t1 F1 B1 X)(h2:∀ c,SK (B1 c) (k (F1 c)) (t' c) F B X):SK A (λ L=>(g L).bind k) (t1.bind t') F B X:=λ L hL=>by
 show SimR ((g L).bind k) (t1.bind t') F B X
 have h:=h1 L hL
 cases t1 with
 | no=>trivial
 | er c e =>
  obtain⟨L1,h3,h4⟩:=h
  try dsimp only at h3
  rw[h3];exact⟨L1,rfl,h4⟩
 | ok b =>
  obtain⟨L1,h3,h4⟩:=h
  try dsimp only at h3
  rw[h3];exact h2 b L1 h4
theorem aip {g:LS->R ω}(h:SK A (λ L=>(g L).bind λ a L1=>R.ok a L1) t F B X):SK A g t F B X:=λ L hL=>by
 have:=h L hL
 dsimp only at this
 cases e:g L with
 | _=>simp only[e]at this;exact this
abbrev SS (A:LS)(g:LS->R O)(K:Kont ω)(t:T ε β)(F:β->ω)(B:β->LS)(X:ε->LS):Prop:=SK A (λ L=>fin K (g L)) t F B X
theorem aO {K:Kont ω}{g:LS->R O}(h:SS A g K t F B X):SK A (K.next g).nx t F B X:=h
theorem bB {K:Kont ω}{g1 g2:LS->R O}(h:SS A g1 (K.next g2) t F B X):SS A (gSeq g1 g2) K t F B X:=λ L hL=>by
 have:=h L hL
 dsimp only at this
 show SimR (fin K (gSeq g1 g2 L)) t F B X;unfold gSeq
 cases e:g1 L with
 | stuck=>simp only[e]at this;exact this
 | err c L1=>simp only[e]at this;exact this
 | ok o L1 =>
  simp only[e]at this
  cases o<;>exact this
theorem dX {K:Kont ω}(h:SK A K.nx t F B X):SS A gNext K t F B X:=h
theorem ahB {K:Kont ω}{r:R α}{k:α->LS->R O}:fin K (r.bind k)=r.bind λ a L=>fin K (k a L):=by cases r<;>rfl
theorem wV {K:Kont ω}{g:LS->R α}{k:α->LS->R O}(h:SK A (λ L=>(g L).bind λ a L1=>fin K (k a L1)) t F B X):SS A (λ L=>(g L).bind k) K t F B X:=λ L hL=>by
 show SimR (fin K ((g L).bind k)) t F B X;rw[ahB];exact h L hL
theorem s_asg {K:Kont ω}{i:Nat}{g:LS->R S}(h:SK A (λ L=>(g L).bind λ s L1=>K.nx (L1.set i (some s))) t F B X):SS A (gAsg i g) K t F B X:=wV h
theorem dW {K:Kont ω}{i:Nat}{s:S}{A':LS}(hA:A.set i (some s)=A')(h:SK A' K.nx t F B X):SK A (λ L=>K.nx (L.set i (some s))) t F B X:=λ L hL=>h _ (by rw[←hA];exact hL.set i _)
theorem s_drop {K:Kont ω}{g:LS->R α}(h:SK A (λ L=>(g L).bind λ _ L1=>K.nx L1) t F B X):SS A (gDrop g) K t F B X:=wV h
theorem s_ret {K:Kont ω}{g:LS->R S}(h:SK A (λ L=>(g L).bind λ s L1=>K.rt s L1) t F B X):SS A (gRet g) K t F B X:=wV h
theorem lW {K:Kont ω}{c:Nat}{e:ε}(hX:Mt (X e) A):SS A (gRaise c) K (.er c e) F B X:=λ L hL=>⟨L,rfl,hX.trans hL⟩
theorem s_if {K:Kont ω}{c:LS->R Bool}{g1 g2:LS->R O}{x:Bool}{t1 t2:T ε β}(hc:Pu A c x)(h1:SS A g1 K t1 F B X)(h2:SS A g2 K t2 F B X):SS A (gIf c g1 g2) K (if x=true then t1 else t2) F B X:=wV (aJ hc (by
 cases x with
 | true=>exact h1
 | false=>exact h2))
theorem qL {K:Kont ω}{c:LS->R Bool}{g1 g2:LS->R O}(h:SK A (λ L=>(c L).bind λ b L1=>fin K (if b=true then g1 L1 else g2 L1)) t F B X):SS A (gIf c g1 g2) K t F B X:=wV h
theorem qM {K:Kont ω}{g1 g2:LS->R O}{x:Bool}{t1 t2:T ε β}(h1:SS A g1 K t1 F B X)(h2:SS A g2 K t2 F B X):SK A (λ L=>fin K (if x=true then g1 L else g2 L)) (if x=true then t1 else t2) F B X:=by
 cases x with
 | true=>exact h1
 | false=>exact h2
def KN:Kont Unit:=⟨λ L=>.ok () L,λ _ _=>.stuck,λ _=>.stuck,λ _=>.stuck⟩
theorem aoF {K:Kont ω}{g:LS->R O}{t1:T ε γ}{B1:γ->LS}{t':γ->T ε β}(h1:SS A g KN t1 (λ _=>()) B1 X)(h2:∀ c,SK (B1 c) K.nx (t' c) F B X):SS A g K (t1.bind t') F B X:=λ L hL=>by
 show SimR (fin K (g L)) (t1.bind t') F B X
 have h:=h1 L hL
 cases t1 with
 | no=>trivial
 | er c e =>
  obtain⟨L1,h3,h4⟩:=h
  try dsimp only at h3
  cases e:g L with
  | ok o L2=>rw[e]at h3;cases o<;>cases h3
  | stuck=>rw[e]at h3;cases h3
  | err c' L2=>rw[e]at h3;cases h3;exact⟨L1,rfl,h4⟩
 | ok b =>
  obtain⟨L1,h3,h4⟩:=h
  try dsimp only at h3
  cases e:g L with
  | ok o L2=>rw[e]at h3;cases o<;>cases h3;exact h2 b _ h4
  | stuck=>rw[e]at h3;cases h3
  | err c' L2=>rw[e]at h3;cases h3
def KR:Kont O:=⟨λ L=>.ok .nx L,λ s L=>.ok (.rt s) L,λ _=>.stuck,λ _=>.stuck⟩
def leO (f:ρ->S):T.Le ν ρ->O
 | .nx _=>.nx
 | .rt r=>.rt (f r)
def leB (Bn:ν->LS)(Br:ρ->LS):T.Le ν ρ->LS
 | .nx v=>Bn v
 | .rt r=>Br r
theorem amE {K:Kont ω}{g:LS->R O}{t1:T ε (T.Le ν ρ)}{f:ρ->S}{Bn:ν->LS}{Br:ρ->LS}{tn:ν->T ε β}{tr:ρ->T ε β}(h1:SS A g KR t1 (leO f) (leB Bn Br) X)(h2:∀ v,SK (Bn v) K.nx (tn v) F B X)(h3:∀ r,SK (Br r) (λ L=>K.rt (f r) L) (tr r) F B X) :
  SS A g K (T.bindL t1 tn tr) F B X:=λ L hL=>by
 show SimR (fin K (g L)) (T.bindL t1 tn tr) F B X
 have h:=h1 L hL
 cases t1 with
 | no=>trivial
 | er c e =>
  obtain⟨L1,h4,h5⟩:=h
  try dsimp only at h4
  cases e:g L with
  | ok o L2=>rw[e]at h4;cases o<;>cases h4
  | stuck=>rw[e]at h4;cases h4
  | err c' L2=>rw[e]at h4;cases h4;exact⟨L1,rfl,h5⟩
 | ok b =>
  obtain⟨L1,h4,h5⟩:=h
  try dsimp only at h4
  cases e:g L with
  | stuck=>rw[e]at h4;cases h4
  | err c' L2=>rw[e]at h4;cases h4
  | ok o L2 =>
   rw[e]at h4
   cases b with
   | nx v=>cases o<;>cases h4;exact h2 v _ h5
   | rt r=>cases o<;>cases h4;exact h3 r _ h5
def Kf (md:List Bool):Kont S:=⟨λ L=>.ok (.d .none) (maskL md L),λ s L=>.ok s (maskL md L),λ _=>.stuck,λ _=>.stuck⟩
theorem oH {md:List Bool}{N:Nat}{g:LS->R O}{A0:LS}{F:β->S}{X':ε->LS}(h:SS (A0++List.replicate (N - A0.length) none) g (Kf md) t F B X')(hX:∀ e,Mt (X e) (maskL md (X' e))):SK A0 (runDef md N g) t F B X:=λ L hL=>by
 have h1:=h (L++List.replicate (N - L.length) none) (by rw[hL.1];exact hL.app (Mt.refl _))
 unfold runDef
 cases t with
 | no=>trivial
 | er c e =>
  obtain⟨L1,h3,h4⟩:=h1
  try dsimp only at h3
  cases e':g (L++List.replicate (N - L.length) none) with
  | ok o L2=>rw[e']at h3;cases o<;>cases h3
  | stuck=>rw[e']at h3;cases h3
  | err c' L2=>rw[e']at h3;cases h3;exact⟨_,rfl,(hX e).trans h4.mask⟩
 | ok b =>
  obtain⟨L1,h3,h4⟩:=h1
  try dsimp only at h3
  cases e':g (L++List.replicate (N - L.length) none) with
  | stuck=>rw[e']at h3;cases h3
  | err c' L2=>rw[e']at h3;cases h3
  | ok o L2 =>
   rw[e']at h3
   cases o with
   | nx=>injection h3 with h5 h6;exact⟨_,by show R.ok _ _=_;rw[h5],by rw[h6];exact h4⟩
   | rt s=>injection h3 with h5 h6;exact⟨_,by show R.ok _ _=_;rw[h5],by rw[h6];exact h4⟩
   | bk=>cases h3
   | ct=>cases h3
theorem lM {md:List Bool}{s:S}{b:β}{F:β->S}(hs:s=F b)(hB:Mt (B b) (maskL md A)):SK A (λ L=>(Kf md).rt s L) (.ok b) F B X:=λ L hL=>⟨_,by show R.ok _ _=_;rw[hs],hB.trans hL.mask⟩
theorem bQ {m:LS->R S}{as:List Ar}{k:S->LS->R ω}(h:SK A (λ L=>(evArgs as L).bind λ xs L1=>(if(refs xs).Nodup then callAt m xs L1 else .stuck).bind k) t F B X):SK A (λ L=>(gCall m as L).bind k) t F B X:=iI h
theorem d9 {k:List Av->LS->R ω}(h:SK A (k []) t F B X):SK A (λ L=>(evArgs [] L).bind k) t F B X:=h
theorem a_d {g:LS->R D}{as:List Ar}{k:List Av->LS->R ω}(h:SK A (λ L=>(g L).bind λ d L1=>(evArgs as L1).bind λ xs L2=>k (.d d::xs) L2) t F B X):SK A (λ L=>(evArgs (.d g::as) L).bind k) t F B X:=λ L hL=>by
 have h:=h L hL
 dsimp only at h
 show SimR (((g L).bind λ d L1=>(evArgs as L1).bind λ xs L2=>R.ok (Av.d d::xs) L2).bind k) t F B X;rw[bx]
 cases e:g L with
 | stuck=>rw[e]at h;exact h
 | err c L1=>rw[e]at h;exact h
 | ok d L1 =>
  rw[e]at h;show SimR (((evArgs as L1).bind λ xs L2=>R.ok (Av.d d::xs) L2).bind k) t F B X;rw[bx];exact h
theorem a_r {i:Nat}{s:S}{as:List Ar}{k:List Av->LS->R ω}(hi:A[i]?=some (some s))(h:SK A (λ L=>(evArgs as L).bind λ xs L2=>k (.r i::xs) L2) t F B X):SK A (λ L=>(evArgs (.r i::as) L).bind k) t F B X:=λ L hL=>by
 have h:=h L hL
 dsimp only at h
 show SimR ((match L[i]? with
  | some (some _)=>(evArgs as L).bind λ xs L2=>R.ok (Av.r i::xs) L2
  | _=>.stuck).bind k) t F B X
 rw[hL.2 i s hi];show SimR (((evArgs as L).bind λ xs L2=>R.ok (Av.r i::xs) L2).bind k) t F B X;rw[bx];exact h
theorem Mt.join {A L:LS}(h:Mt A L)(i:Nat){s:S}(e:(A[i]?).join=some s):(L[i]?).join=some s:=by
 cases e1:A[i]? with
 | none=>rw[e1]at e;cases e
 | some o =>
  rw[e1]at e
  have e:o=some s:=e
  subst e
  rw[h.2 i s e1]
  rfl
theorem Mt.slots {A L:LS}(h:Mt A L):∀ xs:List Av,Mt (xs.map (slotOf A)) (xs.map (slotOf L))
 | []=>ak
 | .d d::xs=>fu (h.slots xs)
 | .r i::xs=>by
  show Mt ((A[i]?).join::xs.map (slotOf A)) ((L[i]?).join::xs.map (slotOf L))
  cases e:(A[i]?).join with
  | none=>exact bF (h.slots xs)
  | some s =>
   rw[h.join i e];exact fu (h.slots xs)
theorem Mt.set2 {A L:LS}{x y:Option S}(h:Mt A L)(i:Nat)(hx:∀ s,x=some s->y=some s):Mt (A.set i x) (L.set i y):=by
 cases x with
 | none=>exact h.offL i y
 | some s=>rw[hx s rfl];exact h.set i _
theorem Mt.back:∀ (xs:List Av) {A L ss zs:LS},Mt A L->Mt ss zs->Mt (putBack xs ss A) (putBack xs zs L)
 | [],A,L,ss,zs,h,k=>by cases ss<;>cases zs<;>exact h
 | .r i::xs,A,L,[],[],h,k=>h
 | .d d::xs,A,L,[],[],h,k=>h
 | .r i::xs,A,L,[],_::_,h,k=>by cases k.1
 | .d _::xs,A,L,[],_::_,h,k=>by cases k.1
 | .r i::xs,A,L,_::_,[],h,k=>by cases k.1
 | .d _::xs,A,L,_::_,[],h,k=>by cases k.1
 | .d d::xs,A,L,x::ss,y::zs,h,k=>Mt.back xs (ss:=ss) (zs:=zs) h ⟨Nat.succ.inj k.1,λ i s e=>k.2 (i+1) s e⟩
 | .r i::xs,A,L,x::ss,y::zs,h,k=>Mt.back xs (ss:=ss) (zs:=zs) (h.set2 i λ s e=>by
   have:=k.2 0 s (by rw[e];rfl)
   exact Option.some.inj this) ⟨Nat.succ.inj k.1,λ i s e=>k.2 (i+1) s e⟩
theorem bR {m:LS->R S}{xs:List Av}{k:S->LS->R ω}{A0:LS}{tm:T ε γ}{Fm:γ->S}{Bm:γ->LS}{Xm:ε->LS}{t':γ->T ε β}(nd:(refs xs).Nodup)(hA:xs.map (slotOf A)=A0)(hm:SK A0 m tm Fm Bm Xm)(hX:∀ e,Mt (X e) (putBack xs (Xm e) A))
  (h:∀ c,SK (putBack xs (Bm c) A) (k (Fm c)) (t' c) F B X):SK A (λ L=>(if(refs xs).Nodup then callAt m xs L else .stuck).bind k) (tm.bind t') F B X:=λ L hL=>by
 have h1:=hm (xs.map (slotOf L)) (by rw[←hA];exact hL.slots xs)
 show SimR ((if(refs xs).Nodup then callAt m xs L else .stuck).bind k) (tm.bind t') F B X;rw[if_pos nd];unfold callAt
 cases tm with
 | no=>trivial
 | er c e =>
  obtain⟨L1,h2,h3⟩:=h1
  try dsimp only at h2
  rw[h2];exact⟨_,rfl,(hX e).trans (Mt.back xs hL h3)⟩
 | ok b =>
  obtain⟨L1,h2,h3⟩:=h1
  try dsimp only at h2
  rw[h2];exact h b _ (Mt.back xs hL h3)
theorem akl {m:LS->R S}{xs:List Av}{k:S->LS->R ω}{A0:LS}{tm:T ε' γ}{Fm:γ->S}{Bm:γ->LS}{Xm:ε'->LS}{t':γ->T ε β}{fe:ε'->ε}(nd:(refs xs).Nodup)(hA:xs.map (slotOf A)=A0)(hm:SK A0 m tm Fm Bm Xm)(hX:∀ e,Mt (X (fe e)) (putBack xs (Xm e) A))
  (h:∀ c,SK (putBack xs (Bm c) A) (k (Fm c)) (t' c) F B X):SK A (λ L=>(if(refs xs).Nodup then callAt m xs L else .stuck).bind k) ((tm.lift fe).bind t') F B X:=λ L hL=>by
 have h1:=hm (xs.map (slotOf L)) (by rw[←hA];exact hL.slots xs)
 show SimR ((if(refs xs).Nodup then callAt m xs L else .stuck).bind k) ((tm.lift fe).bind t') F B X;rw[if_pos nd];unfold callAt
 cases tm with
 | no=>trivial
 | er c e =>
  obtain⟨L1,h2,h3⟩:=h1
  try dsimp only at h2
  rw[h2];exact⟨_,rfl,(hX e).trans (Mt.back xs hL h3)⟩
 | ok b =>
  obtain⟨L1,h2,h3⟩:=h1
  try dsimp only at h2
  rw[h2];exact h b _ (Mt.back xs hL h3)
def Tg (A:LS)(f:D->LS->Option LS)(d:D)(A':LS):Prop:=∀ L,Mt A L->∃ L',f d L=some L'/\Mt A' L'
def Tgs (A:LS)(f:List D->LS->Option LS)(ds:List D)(A':LS):Prop:=∀ L,Mt A L->∃ L',f ds L=some L'/\Mt A' L'
theorem il {i:Nat}{d:D}:Tg A (fName i) d (A.set i (some (.d d))):=λ L hL=>⟨_,rfl,hL.set i _⟩
theorem aeT:Tgs A fNil [] A:=λ L hL=>⟨L,rfl,hL⟩
theorem uK {f:D->LS->Option LS}{r:List D->LS->Option LS}{d:D}{ds:List D}{A1 A2:LS}(h:Tg A f d A1)(k:Tgs A1 r ds A2):Tgs A (fCons f r) (d::ds) A2:=λ L hL=>by
 obtain⟨L1,h1,h2⟩:=h L hL;obtain⟨L2,k1,k2⟩:=k L1 h2;exact⟨L2,by show(f d L).bind (r ds)=_;rw[h1];exact k1,k2⟩
theorem aiq {m:Nat}{f:List D->LS->Option LS}{ds:List D}{A1:LS}(h:Tgs A f ds A1)(hm:ds.length=m):Tg A (fTup m f) (.tuple ds) A1:=λ L hL=>by
 obtain⟨L1,h1,h2⟩:=h L hL;exact⟨L1,by show(if ds.length=m then f ds L else none)=_;rw[if_pos hm];exact h1,h2⟩
def KL:Kont Unit:=⟨λ L=>.ok () L,λ _ _=>.stuck,λ _=>.stuck,λ L=>.ok () L⟩
theorem aeU {f:D->LS->Option LS}{g:LS->R O}{e:α->D}{Inv:ν->LS}{A1:α->ν->LS}{tb:α->ν->T ε ν}(hf:∀ x v,Tg (Inv v) f (e x) (A1 x v))(hb:∀ x v,SS (A1 x v) g KL (tb x v) (λ _=>()) Inv X) :
  ∀ (xs:List α) (v:ν),SK (Inv v) (forGo f g (xs.map e)) (T.forM xs v tb) (λ _=>O.nx) Inv X
 | [],v=>λ L hL=>⟨L,rfl,hL⟩
 | x::xs,v=>λ L hL=>by
  obtain⟨L1,h1,h2⟩:=hf x v L hL
  have h3:=hb x v L1 h2
  have ih:=aeU hf hb xs
  show SimR (forGo f g (e x::xs.map e) L) ((tb x v).bind λ v'=>T.forM xs v' tb) _ _ _;unfold forGo;rw[h1]
  show SimR (match g L1 with
   | .ok .nx L2=>forGo f g (xs.map e) L2
   | .ok .ct L2=>forGo f g (xs.map e) L2
   | .ok .bk L2=>.ok .nx L2
   | r=>r) _ _ _ _
  cases ht:tb x v with
  | no=>trivial
  | er c z =>
   rw[ht]at h3;obtain⟨L3,h4,h5⟩:=h3
   try dsimp only at h4
   cases hg:g L1 with
   | ok o L2=>rw[hg]at h4;cases o<;>cases h4
   | stuck=>rw[hg]at h4;cases h4
   | err c' L2=>rw[hg]at h4;cases h4;exact⟨_,rfl,h5⟩
  | ok v' =>
   rw[ht]at h3;obtain⟨L3,h4,h5⟩:=h3
   try dsimp only at h4
   cases hg:g L1 with
   | stuck=>rw[hg]at h4;cases h4
   | err c' L2=>rw[hg]at h4;cases h4
   | ok o L2 =>
    rw[hg]at h4
    cases o<;>cases h4
    ·exact ih v' _ h5
    ·exact ih v' _ h5
def KB:Kont O:=⟨λ L=>.ok .nx L,λ s L=>.ok (.rt s) L,λ L=>.ok .bk L,λ L=>.ok .nx L⟩
def lpO (f:ρ->S):T.Lp ν ρ->O
 | .nx _=>.nx
 | .bk _=>.bk
 | .rt r=>.rt (f r)
def lpB (Bn:ν->LS)(Br:ρ->LS):T.Lp ν ρ->LS
 | .nx v=>Bn v
 | .bk v=>Bn v
 | .rt r=>Br r
theorem aeV {f:D->LS->Option LS}{g:LS->R O}{e:α->D}{Inv:ν->LS}{Br:ρ->LS}{fr:ρ->S}{A1:α->ν->LS}{tb:α->ν->T ε (T.Lp ν ρ)}(hf:∀ x v,Tg (Inv v) f (e x) (A1 x v))(hb:∀ x v,SS (A1 x v) g KB (tb x v) (lpO fr) (lpB Inv Br) X) :
  ∀ (xs:List α) (v:ν),SK (Inv v) (forGo f g (xs.map e)) (T.forL xs v tb) (leO fr) (leB Inv Br) X
 | [],v=>λ L hL=>⟨L,rfl,hL⟩
 | x::xs,v=>λ L hL=>by
  obtain⟨L1,h1,h2⟩:=hf x v L hL
  have h3:=hb x v L1 h2
  have ih:=aeV hf hb xs
  show SimR (forGo f g (e x::xs.map e) L) ((tb x v).bind _) _ _ _;unfold forGo;rw[h1]
  show SimR (match g L1 with
   | .ok .nx L2=>forGo f g (xs.map e) L2
   | .ok .ct L2=>forGo f g (xs.map e) L2
   | .ok .bk L2=>.ok .nx L2
   | r=>r) _ _ _ _
  cases ht:tb x v with
  | no=>trivial
  | er c z =>
   rw[ht]at h3;obtain⟨L3,h4,h5⟩:=h3
   try dsimp only at h4
   cases hg:g L1 with
   | ok o L2=>rw[hg]at h4;cases o<;>cases h4
   | stuck=>rw[hg]at h4;cases h4
   | err c' L2=>rw[hg]at h4;cases h4;exact⟨_,rfl,h5⟩
  | ok r =>
   rw[ht]at h3;obtain⟨L3,h4,h5⟩:=h3
   try dsimp only at h4
   cases hg:g L1 with
   | stuck=>rw[hg]at h4;cases h4
   | err c' L2=>rw[hg]at h4;cases h4
   | ok o L2 =>
    rw[hg]at h4
    cases r with
    | nx v' =>
     cases o<;>cases h4
     ·exact ih v' _ h5
     ·exact ih v' _ h5
    | bk v'=>cases o<;>cases h4;exact⟨_,rfl,h5⟩
    | rt r=>cases o<;>cases h4;exact⟨_,rfl,h5⟩
end
end VS
namespace VS
open PySem PySem.Spec PyProof.Rows L2
structure Tx where
 cs:List (Fin 1114112)
deriving DecidableEq
def Tx.s (x:Tx):Str:=⟨(x.cs.map (·.val)).toArray⟩
theorem Tx.s_list (x:Tx):x.s.cps.toList=x.cs.map (·.val):=by simp[Tx.s]
theorem Tx.s_len (x:Tx):x.s.length=x.cs.length:=by simp[Tx.s,Str.length]
theorem vA {n:Nat}:∀ {a b:List (Fin n)},a.map (·.val)=b.map (·.val)->a=b
 | [],[],_=>rfl
 | [],_::_,h=>by cases h
 | _::_,[],h=>by cases h
 | x::a,y::b,h=>by
  rw[List.map_cons,List.map_cons]at h
  injection h with h1 h2
  rw[Fin.ext h1,vA h2]
theorem Tx.s_inj {x y:Tx}(h:x.s=y.s):x=y:=by
 have h1:x.s.cps.toList=y.s.cps.toList:=by rw[h]
 rw[Tx.s_list,Tx.s_list]at h1;obtain⟨a⟩:=x;obtain⟨b⟩:=y;exact congrArg Tx.mk (vA h1)
def Tx.of (l:List Nat):Tx:=⟨l.map λ n=>if h:n < 1114112 then⟨n,h⟩ else⟨0,by decide⟩⟩
theorem Tx.of_s {l:List Nat}(h:∀ c∈l,c < 1114112):(Tx.of l).s=⟨l.toArray⟩:=by
 unfold Tx.s Tx.of;rw[List.map_map]
 congr 2
 refine(List.map_congr_left (g:=id) λ c hc=>?_).trans (List.map_id _);show(if h:c < 1114112 then(⟨c,h⟩:Fin 1114112) else _).val=c;rw[dif_pos (h c hc)]
def tx (z:String):Tx:=⟨z.toList.map λ c=>⟨c.toNat,by
 have h:=c.valid
 rcases h with h | ⟨_,h⟩
 ·have:c.toNat < 0xd800:=h
  omega
 ·exact h⟩⟩
theorem amF (z:String):(tx z).s=Str.ofString z:=by
 rw[Str.ofString_eq_toList];unfold Tx.s tx;rw[List.map_map]
 rfl
def Tx.app (x y:Tx):Tx:=⟨x.cs++y.cs⟩
instance:Append Tx:=⟨Tx.app⟩
theorem Tx.app_cs (x y:Tx):(x++y).cs=x.cs++y.cs:=rfl
theorem Tx.app_s (x y:Tx):(x++y).s=x.s++y.s:=by
 show(⟨((x.cs++y.cs).map (·.val)).toArray⟩:Str)=⟨(x.cs.map (·.val)).toArray++(y.cs.map (·.val)).toArray⟩
 simp
structure Tp3 (α β γ:Type) where
 a:α
 b:β
 c:γ
deriving DecidableEq
structure Tp4 (α β γ δ:Type) where
 a:α
 b:β
 c:γ
 d:δ
deriving DecidableEq
structure Tp5 (α β γ δ ζ:Type) where
 a:α
 b:β
 c:γ
 d:δ
 e:ζ
deriving DecidableEq
abbrev PaL:=List (Tp3 Int (Tp4 Int Tx (Option Tx) Tx) (Option Int))
abbrev MoL:=List ((Tp4 Int Tx Tx Int)×(Option Int))
abbrev EvU:=Tp4 Int Tx (Option Tx) Tx
abbrev RkL:=List (Tp3 Tx Int Int)
abbrev MoU:=Tp4 Int Tx Tx Int
class Enc (α:Type) where
 enc:α->D
instance:Enc D:=⟨id⟩
instance:Enc Unit:=⟨λ _=>.none⟩
instance:Enc Int:=⟨.int⟩
instance:Enc Bool:=⟨.bool⟩
instance:Enc Tx:=⟨λ x=>.str x.s⟩
instance {α:Type}[Enc α]:Enc (List α):=⟨λ xs=>.list (xs.map Enc.enc)⟩
instance {α:Type}[Enc α]:Enc (Option α):=⟨λ x=>match x with
 | none=>.none
 | some a=>Enc.enc a⟩
instance {α β:Type}[Enc α][Enc β]:Enc (α×β):=⟨λ p=>.tuple [Enc.enc p.1,Enc.enc p.2]⟩
instance {α β γ:Type}[Enc α][Enc β][Enc γ]:Enc (Tp3 α β γ):=⟨λ p=>.tuple [Enc.enc p.a,Enc.enc p.b,Enc.enc p.c]⟩
instance {α β γ δ:Type}[Enc α][Enc β][Enc γ][Enc δ]:Enc (Tp4 α β γ δ):=⟨λ p=>.tuple [Enc.enc p.a,Enc.enc p.b,Enc.enc p.c,Enc.enc p.d]⟩
instance {α β γ δ ζ:Type}[Enc α][Enc β][Enc γ][Enc δ][Enc ζ]:Enc (Tp5 α β γ δ ζ):=⟨λ p=>.tuple [Enc.enc p.a,Enc.enc p.b,Enc.enc p.c,Enc.enc p.d,Enc.enc p.e]⟩
abbrev dv {α:Type}[Enc α](x:α):Option S:=some (.d (Enc.enc x))
abbrev lv {α:Type}[Enc α](xs:List α):Option S:=some (.ol (xs.map Enc.enc))
class Sh (α:Type)[Enc α][DecidableEq α] where
 dep:Nat
 nn:∀ x:α,Enc.enc x≠PyData.none
 lay:∀ x:α,(Enc.enc x).canLay0=true
 dp:∀ x:α,(Enc.enc x).depth<=dep
 eqv:∀ x y:α,(Enc.enc x).eqv (Enc.enc y)=decide (x=y)
theorem ahC (x:Tx):PyData.strOk x.s=true:=by
 unfold PyData.strOk Tx.s
 simp only[List.all_toArray,List.all_map,List.all_eq_true]
 intro a _;exact decide_eq_true a.isLt
instance:Sh Int where
 dep:=0
 nn:=λ _ h=>by cases h
 lay:=λ _=>rfl
 dp:=λ _=>Nat.le_refl _
 eqv:=λ x y=>by
  show(x == y)=_
  exact Bool.beq_eq_decide_eq x y
instance:Sh Bool where
 dep:=0
 nn:=λ _ h=>by cases h
 lay:=λ _=>rfl
 dp:=λ _=>Nat.le_refl _
 eqv:=λ x y=>by
  show(x == y)=_
  exact Bool.beq_eq_decide_eq x y
instance:Sh Tx where
 dep:=0
 nn:=λ _ h=>by cases h
 lay:=λ x=>by
  show PyData.canLay0 (.str x.s)=true
  unfold PyData.canLay0
  exact ahC x
 dp:=λ x=>Nat.le_of_eq (by
  show PyData.depth (.str x.s)=0
  unfold PyData.depth
  rfl)
 eqv:=λ x y=>by
  show(x.s == y.s)=_
  by_cases h:x=y
  ·subst h;simp
  ·rw[decide_eq_false h]
   exact beq_eq_false_iff_ne.mpr λ z=>h (Tx.s_inj z)
theorem layAll {α:Type}[Enc α][DecidableEq α][Sh α]:∀ xs:List α,PyData.canLayAll0 (xs.map Enc.enc)=true
 | []=>by unfold PyData.canLayAll0;rfl
 | x::xs=>by
  rw[List.map_cons];unfold PyData.canLayAll0;rw[Sh.lay x,layAll xs]
  rfl
theorem dpAll {α:Type}[Enc α][DecidableEq α][i:Sh α]:∀ xs:List α,PyData.depthAll (xs.map Enc.enc)<=i.dep
 | []=>by unfold PyData.depthAll;exact Nat.zero_le _
 | x::xs=>by
  rw[List.map_cons];unfold PyData.depthAll;exact Nat.max_le.mpr ⟨Sh.dp x,dpAll xs⟩
theorem eqvAll {α:Type}[Enc α][DecidableEq α][Sh α]:∀ xs ys:List α,PyData.eqvAll (xs.map Enc.enc) (ys.map Enc.enc)=decide (xs=ys)
 | [],[]=>by simp[PyData.eqvAll]
 | [],_::_=>by simp[PyData.eqvAll]
 | _::_,[]=>by simp[PyData.eqvAll]
 | x::xs,y::ys=>by
  rw[List.map_cons,List.map_cons];unfold PyData.eqvAll;rw[Sh.eqv x y,eqvAll xs ys]
  by_cases h1:x=y<;>by_cases h2:xs=ys<;>simp[h1,h2]
instance {α:Type}[Enc α][DecidableEq α][i:Sh α]:Sh (List α) where
 dep:=i.dep+1
 nn:=λ _ h=>by cases h
 lay:=λ xs=>by
  show PyData.canLay0 (.list (xs.map Enc.enc))=true
  unfold PyData.canLay0
  exact layAll xs
 dp:=λ xs=>by
  show PyData.depth (.list (xs.map Enc.enc))<=_
  unfold PyData.depth
  exact Nat.succ_le_succ (dpAll xs)
 eqv:=λ xs ys=>by
  show PyData.eqv (.list (xs.map Enc.enc)) (.list (ys.map Enc.enc))=_
  unfold PyData.eqv
  exact eqvAll xs ys
instance {α β:Type}[Enc α][DecidableEq α][i:Sh α][Enc β][DecidableEq β][j:Sh β]:Sh (α×β) where
 dep:=max i.dep j.dep+1
 nn:=λ _ h=>by cases h
 lay:=λ p=>by
  show PyData.canLay0 (.tuple [Enc.enc p.1,Enc.enc p.2])=true
  simp[PyData.canLay0,PyData.canLayAll0,Sh.lay p.1,Sh.lay p.2]
 dp:=λ p=>by
  show PyData.depth (.tuple [Enc.enc p.1,Enc.enc p.2])<=_
  have h1:=i.dp p.1
  have h2:=j.dp p.2
  simp only[PyData.depth,PyData.depthAll]
  omega
 eqv:=λ p q=>by
  show PyData.eqv (.tuple [Enc.enc p.1,Enc.enc p.2]) (.tuple [Enc.enc q.1,Enc.enc q.2])=_
  simp only[PyData.eqv,PyData.eqvAll,Sh.eqv,Bool.and_true]
  by_cases h1:p.1=q.1<;>by_cases h2:p.2=q.2<;>simp[h1,h2,Prod.ext_iff]
theorem akm {α β γ:Type}{p q:Tp3 α β γ}:p=q↔p.a=q.a/\p.b=q.b/\p.c=q.c:=by cases p;cases q;simp
theorem akn {α β γ δ:Type}{p q:Tp4 α β γ δ}:p=q↔p.a=q.a/\p.b=q.b/\p.c=q.c/\p.d=q.d:=by cases p;cases q;simp
instance {α β γ:Type}[Enc α][DecidableEq α][i:Sh α][Enc β][DecidableEq β][j:Sh β][Enc γ][DecidableEq γ][k:Sh γ]:Sh (Tp3 α β γ) where
 dep:=max i.dep (max j.dep k.dep)+1
 nn:=λ _ h=>by cases h
 lay:=λ p=>by
  show PyData.canLay0 (.tuple [Enc.enc p.a,Enc.enc p.b,Enc.enc p.c])=true
  simp[PyData.canLay0,PyData.canLayAll0,Sh.lay p.a,Sh.lay p.b,Sh.lay p.c]
 dp:=λ p=>by
  show PyData.depth (.tuple [Enc.enc p.a,Enc.enc p.b,Enc.enc p.c])<=_
  have h1:=i.dp p.a
  have h2:=j.dp p.b
  have h3:=k.dp p.c
  simp only[PyData.depth,PyData.depthAll]
  omega
 eqv:=λ p q=>by
  show PyData.eqv (.tuple [Enc.enc p.a,Enc.enc p.b,Enc.enc p.c]) (.tuple [Enc.enc q.a,Enc.enc q.b,Enc.enc q.c])=_
  simp only[PyData.eqv,PyData.eqvAll,Sh.eqv,Bool.and_true]
  have e:decide (p=q)=decide (p.a=q.a/\p.b=q.b/\p.c=q.c):=decide_eq_decide.mpr akm
  rw[e]
  by_cases h1:p.a=q.a<;>by_cases h2:p.b=q.b<;>by_cases h3:p.c=q.c<;>simp[h1,h2,h3]
theorem acQ {α:Type}[Enc α][DecidableEq α][i:Sh α](h:i.dep<=64)(x:α):SeqAt.shaped (Enc.enc x)=true:=by
 unfold SeqAt.shaped;rw[Sh.lay x,Bool.true_and];exact decide_eq_true (Nat.le_trans (Sh.dp x) h)
section
variable {α:Type}[Enc α][DecidableEq α][i:Sh α]
theorem jW (x y:α)(h:i.dep<=64:=by decide):dEq (Enc.enc x) (Enc.enc y)=some (.bool (decide (x=y))):=by
 unfold dEq;rw[if_pos (.inr ⟨acQ h x,acQ h y⟩),Sh.eqv]
theorem wW (x y:α)(h:i.dep<=64:=by decide):dNe (Enc.enc x) (Enc.enc y)=some (.bool (!decide (x=y))):=by
 unfold dNe;rw[if_pos (.inr ⟨acQ h x,acQ h y⟩),Sh.eqv]
theorem aeW (d:D)(h:d≠.none):PyData.eqv .none d=false/\PyData.eqv d .none=false:=by
 cases d<;>first | exact absurd rfl h | (unfold PyData.eqv;exact⟨rfl,rfl⟩) | exact⟨by unfold PyData.eqv;rfl,by unfold PyData.eqv;rfl⟩
theorem ako (x y:Option α):PyData.eqv (Enc.enc x) (Enc.enc y)=decide (x=y):=by
 cases x with
 | none =>
  cases y with
  | none =>
   show PyData.eqv .none .none=_;unfold PyData.eqv
   rfl
  | some b=>exact(aeW _ (Sh.nn b)).1
 | some a =>
  cases y with
  | none=>exact(aeW _ (Sh.nn a)).2
  | some b =>
   show PyData.eqv (Enc.enc a) (Enc.enc b)=_;rw[Sh.eqv];exact decide_eq_decide.mpr ⟨λ h=>by rw[h],λ h=>Option.some.inj h⟩
theorem amG (x:Option α):dIs (Enc.enc x) .none=some (.bool x.isNone):=by
 cases x with
 | none=>rfl
 | some a =>
  have h:=Sh.nn a
  show dIs (Enc.enc a) .none=_
  generalize Enc.enc a=d at h
  cases d<;>first | exact absurd rfl h | rfl
theorem aa3 (x:α):∀ ys:List α,(ys.map Enc.enc).any (λ z=>PyData.eqv z (Enc.enc x))=decide (x∈ys)
 | []=>by simp
 | y::ys=>by
  rw[List.map_cons,List.any_cons,aa3 x ys,Sh.eqv]
  by_cases h1:y=x
  ·simp[h1]
  ·have h2:¬ x=y:=λ z=>h1 z.symm
   simp[h1,h2]
def memT {α:Type}[DecidableEq α](x:α)(ys:List α):Bool:=decide (x∈ys)
omit [Enc α] i in
theorem fW (x:α)(ys:List α):memT x ys=true↔x∈ys:=by unfold memT;exact decide_eq_true_iff
theorem akp (x:α)(ys:List α)(h:i.dep<=63:=by decide):dNotIn (Enc.enc x) (.list (ys.map Enc.enc))=some (.bool (!memT x ys)):=by
 have ho:inOk (Enc.enc x) (ys.map Enc.enc):=.inr ⟨acQ (Nat.le_succ_of_le h) x,acQ (α:=List α) (Nat.succ_le_succ h) ys⟩
 unfold dNotIn;show(if inOk (Enc.enc x) (ys.map Enc.enc) then some ((ys.map Enc.enc).any λ z=>PyData.eqv z (Enc.enc x)) else none).map (λ b=>PyData.bool (!b))=_;rw[if_pos ho,aa3]
 rfl
end
section
variable {α β:Type}[Enc α][Enc β]
theorem aaa (xs:List α):dLen (.list (xs.map Enc.enc))=some (.int xs.length):=by
 show some (PyData.int ((xs.map Enc.enc).length:Int))=_;rw[List.length_map]
def lenT (x:Tx):Option Int:=if x.cs.length<=sizeLine then some x.cs.length else none
theorem ux (x:Tx):dLen (Enc.enc x)=(lenT x).map Enc.enc:=by
 show(if x.s.length<=sizeLine then some (PyData.int x.s.length) else none)=_;unfold lenT;rw[Tx.s_len]
 split<;>rfl
theorem aa4 {α β:Type}(f:α->β)(xs:List α)(i:Int):atI (xs.map f) i=(atI xs i).map f:=by
 unfold atI;rw[List.length_map]
 cases ixN xs.length i with
 | none=>rfl
 | some j=>exact List.getElem?_map ..
theorem aaH (xs:List α)(i:Int):dIx (.list (xs.map Enc.enc)) (.int i)=(atI xs i).map Enc.enc:=aa4 _ _ _
def txAt (x:Tx)(i:Int):Option Tx:=if x.cs.length<=sizeLine then(atI x.cs i).map λ c=>⟨[c]⟩ else none
theorem ant (x:Tx)(i:Int):dIx (Enc.enc x) (.int i)=(txAt x i).map Enc.enc:=by
 show(if x.s.length<=sizeLine then(atI x.s.cps.toList i).map λ k=>PyData.str ⟨#[k]⟩ else none)=_;unfold txAt;rw[Tx.s_len,Tx.s_list]
 split
 ·rw[aa4,Option.map_map,Option.map_map]
  rfl
 ·rfl
def cutT {α:Type}(xs:List α)(lo hi:Option Int):List α:=(xs.drop (HT.sIx xs.length 0 lo)).take (HT.sIx xs.length xs.length hi - HT.sIx xs.length 0 lo)
theorem qN (xs:List α)(lo hi:Option Int):dSl (.list (xs.map Enc.enc)) lo hi=some (.ol ((cutT xs lo hi).map Enc.enc)):=by
 show some (S.ol (cutD (xs.map Enc.enc) lo hi))=_;unfold cutD cutT;rw[List.length_map,List.map_take,List.map_drop]
def catT {α:Type}(xs ys:List α):Option (List α):=if xs.length+ys.length<=sizeLine then some (xs++ys) else none
theorem yr (xs ys:List α):dAdd (.list (xs.map Enc.enc)) (.list (ys.map Enc.enc))=(catT xs ys).map λ z=>S.ol (z.map Enc.enc):=by
 rw[adn,List.length_map,List.length_map];unfold catT
 split
 ·simp
 ·rfl
def catS (x y:Tx):Option Tx:=if x.cs.length+y.cs.length<=sizeLine then some (x++y) else none
theorem cat_t (x y:Tx):dAdd (Enc.enc x) (Enc.enc y)=(catS x y).map λ z=>S.d (Enc.enc z):=by
 show dAdd (.str x.s) (.str y.s)=_;rw[abH,Tx.s_len,Tx.s_len];unfold catS
 split
 ·show some (S.d (.str (x.s++y.s)))=some (S.d (.str (x++y).s));rw[Tx.app_s]
 ·rfl
@[irreducible] def repT {α:Type}(xs:List α)(k:Int):Option (List α):=if repOk xs.length k=true then some (List.replicate k.toNat xs).flatten else none
end
section
variable {A:LS}{α β:Type}
theorem dw {d:D}:Pu A (gC d) d:=λ _ _=>rfl
theorem aQ (z:String):Pu A (gC (.str z)) (Enc.enc (tx z)):=λ L _=>by
 show R.ok (PyData.str (Str.ofString z)) L=R.ok (PyData.str (tx z).s) L;rw[amF]
theorem aZ {i:Nat}{d:D}(h:A[i]?=some (some (.d d))):Pu A (gVar i) d:=λ L hL=>by
 unfold gVar;rw[hL.2 i _ h]
theorem aC {i:Nat}{d:D}(h:A[i]?=some (some (.d d))):Pu A (gPeek i) d:=λ L hL=>by
 unfold gPeek;rw[hL.2 i _ h]
theorem bD {i:Nat}{ds:List D}(h:A[i]?=some (some (.ol ds))):Pu A (gPeek i) (.list ds):=λ L hL=>by
 unfold gPeek;rw[hL.2 i _ h]
theorem vB {g:LS->R D}{d:D}(h:Pu A g d):Pu A (gD g) (.d d):=λ L hL=>by
 show(g L).bind _=_;rw[h L hL]
 rfl
theorem acR {g:LS->R S}{d:D}(h:Pu A g (.d d)):Pu A (gFz g) d:=λ L hL=>by
 show(g L).bind frS=_;rw[h L hL]
 rfl
theorem jH {g:LS->R S}{ds:List D}(h:Pu A g (.ol ds)):Pu A (gFz g) (.list ds):=λ L hL=>by
 show(g L).bind frS=_;rw[h L hL]
 rfl
theorem iH {f:D->D->Option α}{ga gb:LS->R D}{d e:D}{z:α}(ha:Pu A ga d)(hb:Pu A gb e)(h:f d e=some z):Pu A (gOp f ga gb) z:=λ L hL=>by
 show(ga L).bind _=_;rw[ha L hL];show(gb L).bind _=_;rw[hb L hL];show ofO (f d e) L=_;rw[h]
 rfl
theorem wz {f:D->Option α}{ga:LS->R D}{d:D}{z:α}(ha:Pu A ga d)(h:f d=some z):Pu A (gUn f ga) z:=λ L hL=>by
 show(ga L).bind _=_;rw[ha L hL];show ofO (f d) L=_;rw[h]
 rfl
theorem qW {g:LS->R D}{b:Bool}(h:Pu A g (.bool b)):Pu A (gB g) b:=λ L hL=>by
 show(g L).bind asB=_;rw[h L hL]
 rfl
theorem ir:Pu A gNil []:=λ _ _=>rfl
theorem bL {a:LS->R D}{r:LS->R (List D)}{d:D}{ds:List D}(h1:Pu A a d)(h2:Pu A r ds):Pu A (gCons a r) (d::ds):=λ L hL=>by
 show(a L).bind _=_;rw[h1 L hL];show(r L).bind _=_;rw[h2 L hL]
 rfl
theorem rR {a:LS->R (List D)}{ds:List D}(h:Pu A a ds)(hl:ds.length<=1000:=by decide):Pu A (gLst a) (.ol ds):=λ L hL=>by
 show(a L).bind _=_;rw[h L hL];exact if_pos (Nat.le_trans hl (by rw[PySem.sizeLine_eq];decide))
theorem aeX {a b:LS->R Bool}{x y:Bool}(h1:Pu A a x)(h2:Pu A b y):Pu A (gAnd a b) (x&&y):=λ L hL=>by
 show(a L).bind _=_;rw[h1 L hL]
 cases x with
 | true=>exact h2 L hL
 | false=>rfl
theorem aoG {a b:LS->R Bool}{x y:Bool}(h1:Pu A a x)(h2:Pu A b y):Pu A (gOr a b) (x||y):=λ L hL=>by
 show(a L).bind _=_;rw[h1 L hL]
 cases x with
 | true=>rfl
 | false=>exact h2 L hL
theorem ais {a:LS->R Bool}{x:Bool}(h1:Pu A a x):Pu A (gNot a) (!x):=λ L hL=>by
 show(a L).bind _=_;rw[h1 L hL]
 rfl
theorem akq {a b:LS->R D}{x y:Bool}(h1:Pu A a (.bool x))(h2:Pu A b (.bool y)):Pu A (gAndV a b) (.bool (x&&y)):=λ L hL=>by
 show(a L).bind _=_;rw[h1 L hL]
 cases x with
 | true=>exact h2 L hL
 | false=>rfl
theorem mW:Pu A gNo none:=λ _ _=>rfl
theorem j9 {g:LS->R D}{i:Int}(h:Pu A g (.int i)):Pu A (gSo g) (some i):=λ L hL=>by
 show(g L).bind asI=_;rw[h L hL]
 rfl
theorem rW {ga:LS->R D}{lo hi:LS->R (Option Int)}{d:D}{l u:Option Int}{s:S}(h:Pu A ga d)(h1:Pu A lo l)(h2:Pu A hi u)(hs:dSl d l u=some s):Pu A (gSl ga lo hi) s:=λ L hL=>by
 show(ga L).bind _=_;rw[h L hL];show(lo L).bind _=_;rw[h1 L hL];show(hi L).bind _=_;rw[h2 L hL];show ofO (dSl d l u) L=_;rw[hs]
 rfl
def signsT (x:Tx):List Tx:=x.cs.map λ c=>⟨[c]⟩
def rangeT (n:Nat):List Int:=(List.range n).map λ(k:Nat)=>(k:Int)
theorem akr (n:Nat):intsD 0 n=(rangeT n).map Enc.enc:=by
 unfold intsD rangeT;rw[List.map_map];refine List.map_congr_left λ k _=>?_;show PyData.int (0+(k:Int))=PyData.int (k:Int);rw[Int.zero_add]
def inR (j:Int):Prop:=-4611686018427387904<=j/\j < 4611686018427387904
instance (j:Int):Decidable (inR j):=by
 unfold inR
 exact inferInstance
theorem amH {j:Int}(h:inR j):-(2 ^ 62)<=j/\j < 2 ^ 62:=by
 unfold inR at h
 omega
theorem amI {j:Int}(h0:-1000000000<=j)(h1:j<=1000000000):inR j:=by
 unfold inR
 omega
end
section
variable {ε ε' α β γ δ ω ν ρ:Type}{A A':LS}{F:β->ω}{B:β->LS}{X:ε->LS}{t:T ε β}
def appEnd (i:Nat)(d:D)(L1:LS):R S:=gOwnL i (λ ds L2=>if ds.length < sizeLine then .ok (.d .none) (L2.set i (some (.ol (ds++[d])))) else .stuck) L1
theorem ahD {i:Nat}{ds:List D}{g:LS->R D}{k:S->LS->R ω}(h:A[i]?=some (some (.ol ds)))(h2:SK A (λ L=>(g L).bind λ d L1=>(appEnd i d L1).bind k) t F B X):SK A (λ L=>(gApp i g L).bind k) t F B X:=λ L hL=>by
 have h3:=h2 L hL
 show SimR ((gApp i g L).bind k) t F B X;unfold gApp gOwnL;rw[hL.2 i _ h];show SimR (((g L).bind λ d L1=>appEnd i d L1).bind k) t F B X;rw[bx];exact h3
theorem ahE [Enc α]{i:Nat}{xs:List α}{x:α}{k:S->LS->R ω}{A':LS}(h:A[i]?=some (some (.ol (xs.map Enc.enc))))(hA:A.set i (some (.ol ((xs++[x]).map Enc.enc)))=A')(h2:SK A' (k (.d .none)) t F B X):SK A (λ L=>(appEnd i (Enc.enc x) L).bind k) (T.gd (xs.length < sizeLine) t) F B X:=aoE λ hs L hL=>by
 show SimR ((appEnd i (Enc.enc x) L).bind k) t F B X;unfold appEnd gOwnL;rw[hL.2 i _ h];show SimR ((if(xs.map Enc.enc).length < sizeLine then R.ok (S.d .none) (L.set i (some (.ol (xs.map Enc.enc++[Enc.enc x])))) else .stuck).bind k) t F B X;rw[List.length_map,if_pos hs];refine h2 _ ?_;rw[←hA,List.map_append];exact hL.set i _
def setT {α:Type}(xs:List α)(k:Int)(x:α):Option (List α):=(ixN xs.length k).map λ j=>xs.set j x
theorem oJ {i:Nat}{s:S}{gb:LS->R D}{k:D->LS->R ω}(h:A[i]?=some (some s))(h2:SK A (λ L=>(gb L).bind λ e L1=>(gPeek i L1).bind λ d L2=>(ofO (dIx d e) L2).bind k) t F B X):SK A (λ L=>(gIxP i gb L).bind k) t F B X:=λ L hL=>by
 have h3:=h2 L hL
 show SimR ((gIxP i gb L).bind k) t F B X;unfold gIxP;rw[hL.2 i _ h];show SimR (((gb L).bind λ e L1=>(gPeek i L1).bind λ d L2=>ofO (dIx d e) L2).bind k) t F B X;rw[bx]
 dsimp only at h3
 cases e:gb L with
 | stuck=>rw[e]at h3;exact h3
 | err c L1=>rw[e]at h3;exact h3
 | ok z L1 =>
  rw[e]at h3;show SimR (((gPeek i L1).bind λ d L2=>ofO (dIx d z) L2).bind k) t F B X;rw[bx];exact h3
theorem ahF {ga:LS->R D}{lo hi:LS->R (Option Int)}{k:S->LS->R ω}(h:SK A (λ L=>(ga L).bind λ d L1=>(lo L1).bind λ l L2=>(hi L2).bind λ u L3=>(ofO (dSl d l u) L3).bind k) t F B X):SK A (λ L=>(gSl ga lo hi L).bind k) t F B X:=λ L hL=>by
 have h:=h L hL
 dsimp only at h
 show SimR (((ga L).bind λ d L1=>(lo L1).bind λ l L2=>(hi L2).bind λ u L3=>ofO (dSl d l u) L3).bind k) t F B X;rw[bx]
 cases e:ga L with
 | stuck=>rw[e]at h;exact h
 | err c L1=>rw[e]at h;exact h
 | ok d L1 =>
  rw[e]at h;show SimR (((lo L1).bind λ l L2=>(hi L2).bind λ u L3=>ofO (dSl d l u) L3).bind k) t F B X;rw[bx]
  have h:SimR ((lo L1).bind λ l L2=>(hi L2).bind λ u L3=>(ofO (dSl d l u) L3).bind k) t F B X:=h
  cases e2:lo L1 with
  | stuck=>rw[e2]at h;exact h
  | err c L2=>rw[e2]at h;exact h
  | ok l L2 =>
   rw[e2]at h;show SimR (((hi L2).bind λ u L3=>ofO (dSl d l u) L3).bind k) t F B X;rw[bx];exact h
def cutS' (x:Tx)(lo hi:Option Int):Option Tx:=if x.cs.length<=sizeLine then some ⟨cutT x.cs lo hi⟩ else none
theorem aa5 (x:Tx)(lo hi:Option Int):dSl (Enc.enc x) lo hi=(cutS' x lo hi).map λ z=>S.d (Enc.enc z):=by
 show(if x.s.length<=sizeLine then some (S.d (.str (cutS x.s lo hi))) else none)=_;unfold cutS';rw[Tx.s_len]
 by_cases h:x.cs.length<=sizeLine
 ·rw[if_pos h,if_pos h];show some (S.d (.str (cutS x.s lo hi)))=some (S.d (.str (Tx.s ⟨cutT x.cs lo hi⟩)))
  congr 3
  unfold cutS Tx.s cutT
  simp[Str.length]
 ·rw[if_neg h,if_neg h]
  rfl
theorem aeY {ga gb:LS->R D}{k:D->LS->R ω}{z:Str}(h1:Pu A ga (.str z))(h:SK A (λ L=>(gb L).bind λ e L2=>(ofO (dJoin (.str z) e) L2).bind k) t F B X):SK A (λ L=>(gJoin ga gb L).bind k) t F B X:=λ L hL=>by
 have h:=h L hL
 show SimR (((ga L).bind (gTxt λ a L1=>(gb L1).bind λ e L2=>ofO (dJoin (.str a) e) L2)).bind k) t F B X;rw[h1 L hL];show SimR (((gb L).bind λ e L2=>ofO (dJoin (.str z) e) L2).bind k) t F B X;rw[bx];exact h
theorem aks {ga gb:LS->R D}{k:D->LS->R ω}{ds:List D}(h1:Pu A ga (.list ds))(h:SK A (λ L=>(gb L).bind λ e L2=>(ofO (dCount (.list ds) e) L2).bind k) t F B X):SK A (λ L=>(gCount ga gb L).bind k) t F B X:=λ L hL=>by
 have h:=h L hL
 show SimR (((ga L).bind (cntL gb)).bind k) t F B X;rw[h1 L hL];show SimR (((gb L).bind λ e L2=>ofO (dCount (.list ds) e) L2).bind k) t F B X;rw[bx];exact h
class EncK (κ:Type) where
 ks:κ->List Key
 inj:∀ a b,ks a=ks b->a=b
class Enc1 (κ:Type) where
 k1:κ->Key
 inj:∀ a b,k1 a=k1 b->a=b
instance:Enc1 Int:=⟨.inl,λ _ _ h=>Sum.inl.inj h⟩
instance:Enc1 Tx:=⟨λ x=>.inr x.s,λ _ _ h=>Tx.s_inj (Sum.inr.inj h)⟩
instance {κ μ:Type}[Enc1 κ][Enc1 μ]:EncK (κ×μ):=⟨λ p=>[Enc1.k1 p.1,Enc1.k1 p.2],λ a b h=>by
 injection h with h1 h2
 injection h2 with h2 _
 exact Prod.ext (Enc1.inj _ _ h1) (Enc1.inj _ _ h2)⟩
class KD1 (κ:Type)[Enc κ][Enc1 κ]:Prop where
 eq:∀ x:κ,keyD (Enc.enc x)=some (Enc1.k1 x)
class KDs (κ:Type)[Enc κ][EncK κ]:Prop where
 eq:∀ x:κ,keysD (Enc.enc x)=some (EncK.ks x)
instance:KD1 Int:=⟨λ _=>rfl⟩
instance:KD1 Tx:=⟨λ _=>rfl⟩
instance {κ μ:Type}[Enc κ][Enc1 κ][KD1 κ][Enc μ][Enc1 μ][KD1 μ]:KDs (κ×μ):=⟨λ p=>by
 show(keyD (Enc.enc p.1)).bind (λ k=>((keyD (Enc.enc p.2)).bind λ k=>((some []:Option (List Key)).map (k::·))).map (k::·))=_
 rw[KD1.eq p.1,KD1.eq p.2]
 rfl⟩
abbrev Dt (κ α:Type):=List (κ×α)
def dget {κ:Type}[DecidableEq κ](d:Dt κ α)(k:κ):Option α:=(d.find? λ p=>decide (p.1=k)).map (·.2)
def dput {κ:Type}[DecidableEq κ](d:Dt κ α)(k:κ)(v:α):Dt κ α:=if(d.any λ p=>decide (p.1=k))=true then d.map (λ p=>if p.1=k then(p.1,v) else p) else d++[(k,v)]
def acS {κ α:Type}[Enc1 κ][Enc α](d:Dt κ α):List (Key×D):=d.map λ p=>(Enc1.k1 p.1,Enc.enc p.2)
abbrev kv {κ α:Type}[Enc1 κ][Enc α](d:Dt κ α):Option S:=some (.odK (acS d))
theorem aeZ {κ μ:Type}[DecidableEq κ][DecidableEq μ][Enc α](f:κ->μ)(hf:∀ a b,f a=f b->a=b)(k:κ):∀ d:Dt κ α,valK (d.map λ p=>(f p.1,Enc.enc p.2)) (f k)=(dget d k).map Enc.enc
 | []=>rfl
 | p::d=>by
  have ih:=aeZ f hf k d
  unfold valK dget at *
  by_cases h:p.1=k
  ·rw[List.map_cons,List.find?_cons_of_pos (l:=d.map λ p=>(f p.1,Enc.enc p.2)) (by simp[h]),List.find?_cons_of_pos (l:=d) (by simp[h])]
   rfl
  ·have h':¬ f p.1=f k:=λ z=>h (hf _ _ z)
   rw[List.map_cons,List.find?_cons_of_neg (l:=d.map λ p=>(f p.1,Enc.enc p.2)) (by simp[h']),List.find?_cons_of_neg (l:=d) (by simp[h])];exact ih
section
variable {κ:Type}[DecidableEq κ][Enc κ][Enc α]{i:Nat}{d:Dt κ α}{x:κ}
theorem ahG [Enc1 κ][KD1 κ]{L:LS}(h:L[i]?=some (kv d)):dictAt L[i]? (Enc.enc x)=some ((dget d x).map Enc.enc):=by
 rw[h];show(keyD (Enc.enc x)).map (valK (acS d))=_;rw[KD1.eq x];exact congrArg some (aeZ Enc1.k1 Enc1.inj x d)
end
def lcBody (gt:LS->R Bool)(ge:LS->R D):LS->R (Option D):=λ L=>(gt L).bind λ b L1=>if b=true then(ge L1).bind λ y L2=>.ok (some y) L2 else .ok none L1
theorem Mt.wipe {A L:LS}(h:Mt A L):∀ vs:List Nat,Mt (wipeL A vs) (wipeL L vs)
 | []=>h
 | v::vs=>(h.wipe vs).set v none
def T.lcM' {ε ε' α β ν:Type}:List α->List β->ν->(α->ν->T ε' (Option β×ν))->T ε (List β×ν)
 | [],acc,v,_=>.ok (acc,v)
 | x::xs,acc,v,f=>match f x v with
  | .ok (some y,v')=>T.gd (acc.length < sizeLine) (T.lcM' xs (acc++[y]) v' f)
  | .ok (none,v')=>T.lcM' xs acc v' f
  | _=>.no
theorem ait [Enc γ]{vs:List Nat}{f:D->LS->Option LS}{gt:LS->R Bool}{ge:LS->R D}{e:α->D}{Inv:ν->LS}{A1:α->ν->LS}{Bv:ν->LS}{Xe:ε'->LS}{tb:α->ν->T ε' (Option γ×ν)}(hf:∀ x v,Tg (Inv v) f (e x) (A1 x v))
  (hb:∀ x v,SK (A1 x v) (lcBody gt ge) (tb x v) (λ p=>p.1.map Enc.enc) (λ p=>Bv p.2) Xe) (hw:∀ v,Mt (Inv v) (wipeL (Bv v) vs)) :
  ∀ (xs:List α) (acc:List γ) (v:ν),SK (Inv v) (lcGo vs f gt ge (xs.map e) (acc.map Enc.enc)) (T.lcM' xs acc v tb) (λ p:List γ×ν=>S.ol (p.1.map Enc.enc)) (λ p=>Inv p.2) X
 | [],acc,v=>λ L hL=>⟨L,rfl,hL⟩
 | x::xs,acc,v=>λ L hL=>by
  obtain⟨L1,h1,h2⟩:=hf x v L hL
  have h3:=hb x v L1 h2
  have ih:=ait hf hb hw xs
  show SimR (lcGo vs f gt ge (e x::xs.map e) (acc.map Enc.enc) L) (match tb x v with
   | .ok (some y,v')=>T.gd (acc.length < sizeLine) (T.lcM' xs (acc++[y]) v' tb)
   | .ok (none,v')=>T.lcM' xs acc v' tb
   | _=>.no) _ _ _
  unfold lcGo;rw[h1]
  show SimR (match gt L1 with
   | .ok b L2=>if b=true then(match ge L2 with
     | .ok y L3=>if(acc.map Enc.enc).length < sizeLine then lcGo vs f gt ge (xs.map e) (acc.map Enc.enc++[y]) (wipeL L3 vs) else .stuck
     | _=>.stuck) else lcGo vs f gt ge (xs.map e) (acc.map Enc.enc) (wipeL L2 vs)
   | _=>.stuck) _ _ _ _
  cases ht:tb x v with
  | no=>trivial
  | er c z=>trivial
  | ok p =>
   rw[ht]at h3;obtain⟨o,v'⟩:=p;obtain⟨L3,h4,h5⟩:=h3;unfold lcBody at h4
   cases hg:gt L1 with
   | stuck=>rw[hg]at h4;cases h4
   | err c' L2=>rw[hg]at h4;cases h4
   | ok b L2 =>
    rw[hg]at h4
    cases b with
    | false =>
     have h4:(R.ok none L2:R (Option D))=.ok (o.map Enc.enc) L3:=h4
     injection h4 with h6 h7
     cases o with
     | some y=>cases h6
     | none =>
      subst h7
      exact ih acc v' _ ((hw v').trans (h5.wipe vs))
    | true =>
     have h4:((ge L2).bind λ y L2=>(R.ok (some y) L2:R (Option D)))=.ok (o.map Enc.enc) L3:=h4
     cases hge:ge L2 with
     | stuck=>rw[hge]at h4;cases h4
     | err c' L2=>rw[hge]at h4;cases h4
     | ok y L4 =>
      rw[hge]at h4
      injection h4 with h6 h7
      cases o with
      | none=>cases h6
      | some y' =>
       subst h7
       have hy:y=Enc.enc y':=Option.some.inj h6
       subst hy
       show SimR (match ge L2 with
        | .ok y L3=>if(acc.map Enc.enc).length < sizeLine then lcGo vs f gt ge (xs.map e) (acc.map Enc.enc++[y]) (wipeL L3 vs) else .stuck
        | _=>.stuck) (T.gd (acc.length < sizeLine) (T.lcM' xs (acc++[y']) v' tb)) _ _ _
       rw[hge];show SimR (if(acc.map Enc.enc).length < sizeLine then lcGo vs f gt ge (xs.map e) (acc.map Enc.enc++[Enc.enc y']) (wipeL L4 vs) else .stuck) (T.gd (acc.length < sizeLine) (T.lcM' xs (acc++[y']) v' tb)) _ _ _;unfold T.gd;rw[List.length_map]
       by_cases hs:acc.length < sizeLine
       ·rw[if_pos hs,if_pos hs]
        have:=ih (acc++[y']) v' _ ((hw v').trans (h5.wipe vs))
        rw[List.map_append]at this;exact this
       ·rw[if_neg hs,if_neg hs]
        trivial
def T.lc {ε ε' α β ν:Type}(xs:List α)(v:ν)(f:α->ν->T ε' (Option β×ν)):T ε (List β×ν):=T.lcM' xs [] v f
def T.lcp {ε α β:Type}(xs:List α)(p:α->Bool)(h:α->β):T ε (List β):=if xs.length<=sizeLine then .ok ((xs.filter p).map h) else .no
end
section
variable {ε ε' α β γ δ ω ν ρ:Type}{A A':LS}{F:β->ω}{B:β->LS}{X:ε->LS}{t:T ε β}
abbrev XV:Empty->LS:=λ e=>e.elim
def T.up {ε α:Type}(t:T Empty α):T ε α:=t.lift Empty.elim
theorem T.up_ok {ε α:Type}(a:α):(T.up (.ok a):T ε α)=.ok a:=rfl
theorem dC {X G:Empty->LS}:∀ e:Empty,Mt (X e) (G e):=λ e=>e.elim
def orQ (x:Bool)(b:LS->R Bool):LS->R Bool:=λ L=>if x=true then .ok true L else b L
def andQ (x:Bool)(b:LS->R Bool):LS->R Bool:=λ L=>if x=true then b L else .ok false L
theorem wA {a b:LS->R Bool}{k:Bool->LS->R ω}(h:SK A (λ L=>(a L).bind λ x L1=>(orQ x b L1).bind k) t F B X):SK A (λ L=>(gOr a b L).bind k) t F B X:=iI h
theorem aiu {a b:LS->R Bool}{k:Bool->LS->R ω}(h:SK A (λ L=>(a L).bind λ x L1=>(andQ x b L1).bind k) t F B X):SK A (λ L=>(gAnd a b L).bind k) t F B X:=iI h
theorem afZ {b:LS->R Bool}{x:Bool}{k:Bool->LS->R ω}{t1 t2:T ε β}(h1:SK A (k true) t1 F B X)(h2:SK A (λ L=>(b L).bind k) t2 F B X):SK A (λ L=>(orQ x b L).bind k) (if x=true then t1 else t2) F B X:=by
 cases x with
 | true=>exact h1
 | false=>exact h2
theorem amJ {b:LS->R Bool}{x:Bool}{k:Bool->LS->R ω}{t1 t2:T ε β}(h1:SK A (λ L=>(b L).bind k) t1 F B X)(h2:SK A (k false) t2 F B X):SK A (λ L=>(andQ x b L).bind k) (if x=true then t1 else t2) F B X:=by
 cases x with
 | true=>exact h1
 | false=>exact h2
theorem lX {g:LS->R D}{k:List D->LS->R ω}(h:SK A (λ L=>(g L).bind λ d L1=>(fH d L1).bind k) t F B X):SK A (λ L=>((g L).bind fH).bind k) t F B X:=iI h
theorem uL {x:Tx}{k:List D->LS->R ω}(h:SK A (k ((signsT x).map Enc.enc)) t F B X):SK A (λ L=>(fH (Enc.enc x) L).bind k) t F B X:=λ L hL=>by
 have h:=h L hL
 have e:(signs x.s)=(signsT x).map Enc.enc:=by
  unfold signs signsT;rw[Tx.s_list,List.map_map,List.map_map]
  rfl
 show SimR ((R.ok (signs x.s) L).bind k) t F B X;rw[e];exact h
theorem ae0 {g:LS->R (List D)}{k:List D->LS->R ω}(h:SK A (λ L=>(g L).bind λ d L1=>(abJ d L1).bind k) t F B X):SK A (λ L=>((g L).bind abJ).bind k) t F B X:=iI h
theorem ae1 {n:Int}{k:List D->LS->R ω}(h:SK A (k ((rangeT n.toNat).map Enc.enc)) t F B X):SK A (λ L=>(abJ [Enc.enc n] L).bind k) (T.gd (inR n) t) F B X:=aoE λ hn L hL=>by
 have h:=h L hL
 show SimR ((if -(2 ^ 62)<=n/\n < 2 ^ 62 then R.ok (intsD 0 n.toNat) L else .stuck).bind k) t F B X;rw[if_pos (amH hn),akr];exact h
theorem rY {K:Kont ω}{gi:LS->R (List D)}{f:D->LS->Option LS}{g:LS->R O}(h:SK A (λ L=>(gi L).bind λ ds L1=>fin K (forGo f g ds L1)) t F B X):SS A (gFor gi f g) K t F B X:=wV h
theorem acT {K:Kont ω}{f:D->LS->Option LS}{g:LS->R O}{e:α->D}{xs:List α}{v:ν}{t':ν->T ε β}(Inv:ν->LS)(A1:α->ν->LS){tb:α->ν->T ε ν}(h0:Mt (Inv v) A)(hf:∀ x v,Tg (Inv v) f (e x) (A1 x v))(hb:∀ x v,SS (A1 x v) g KL (tb x v) (λ _=>()) Inv X)
  (h:∀ v,SK (Inv v) K.nx (t' v) F B X):SK A (λ L=>fin K (forGo f g (xs.map e) L)) ((T.forM xs v tb).bind t') F B X:=λ L hL=>by
 have h1:=aeU hf hb xs v L (h0.trans hL)
 show SimR (fin K (forGo f g (xs.map e) L)) _ F B X
 cases ht:T.forM xs v tb with
 | no=>trivial
 | er c z =>
  rw[ht]at h1;obtain⟨L3,h4,h5⟩:=h1;rw[h4];exact⟨_,rfl,h5⟩
 | ok v' =>
  rw[ht]at h1;obtain⟨L3,h4,h5⟩:=h1;rw[h4];exact h v' _ h5
theorem ae2 {K:Kont ω}{f:D->LS->Option LS}{g:LS->R O}{e:α->D}{xs:List α}{v:ν}{tn:ν->T ε β}{tr:ρ->T ε β}(Inv:ν->LS)(Br:ρ->LS)(fr:ρ->S)(A1:α->ν->LS){tb:α->ν->T ε (T.Lp ν ρ)}(h0:Mt (Inv v) A)(hf:∀ x v,Tg (Inv v) f (e x) (A1 x v))(hb:∀ x v,SS (A1 x v) g KB (tb x v) (lpO fr) (lpB Inv Br) X)
  (h:∀ v,SK (Inv v) K.nx (tn v) F B X) (h3:∀ r,SK (Br r) (λ L=>K.rt (fr r) L) (tr r) F B X):SK A (λ L=>fin K (forGo f g (xs.map e) L)) (T.bindL (T.forL xs v tb) tn tr) F B X:=λ L hL=>by
 have h1:=aeV hf hb xs v L (h0.trans hL)
 show SimR (fin K (forGo f g (xs.map e) L)) _ F B X
 cases ht:T.forL xs v tb with
 | no=>trivial
 | er c z =>
  rw[ht]at h1;obtain⟨L3,h4,h5⟩:=h1;rw[h4];exact⟨_,rfl,h5⟩
 | ok z =>
  rw[ht]at h1;obtain⟨L3,h4,h5⟩:=h1;rw[h4]
  cases z with
  | nx v'=>exact h v' _ h5
  | rt r=>exact h3 r _ h5
def lcQ (vs:List Nat)(f:D->LS->Option LS)(gt:LS->R Bool)(ge:LS->R D)(ds:List D)(L1:LS):R S:=lcGo vs f gt ge ds [] (wipeL L1 vs)
theorem ahH {vs:List Nat}{gi:LS->R (List D)}{f:D->LS->Option LS}{gt:LS->R Bool}{ge:LS->R D}{k:S->LS->R ω}(h:SK A (λ L=>(gi L).bind λ ds L1=>(lcQ vs f gt ge ds L1).bind k) t F B X):SK A (λ L=>(gLc vs gi f gt ge L).bind k) t F B X:=iI h
theorem ao9 [Enc γ]{vs:List Nat}{f:D->LS->Option LS}{gt:LS->R Bool}{ge:LS->R D}{e:α->D}{xs:List α}{v:ν}{k:S->LS->R ω}(Inv:ν->LS)(A1:α->ν->LS)(Bv:ν->LS)(Xe:ε'->LS){tb:α->ν->T ε' (Option γ×ν)}{t':List γ×ν->T ε β}(h0:Mt (Inv v) (wipeL A vs))(hf:∀ x v,Tg (Inv v) f (e x) (A1 x v))
  (hb:∀ x v,SK (A1 x v) (lcBody gt ge) (tb x v) (λ p=>p.1.map Enc.enc) (λ p=>Bv p.2) Xe) (hw:∀ v,Mt (Inv v) (wipeL (Bv v) vs)) (h2:∀ ys v,SK (Inv v) (k (.ol (ys.map Enc.enc))) (t' (ys,v)) F B X) :
  SK A (λ L=>(lcQ vs f gt ge (xs.map e) L).bind k) ((T.lc xs v tb).bind t') F B X:=λ L hL=>by
 have h1:=ait (X:=X) hf hb hw xs [] v (wipeL L vs) (h0.trans (hL.wipe vs))
 show SimR ((lcGo vs f gt ge (xs.map e) [] (wipeL L vs)).bind k) ((T.lcM' xs [] v tb).bind t') F B X
 cases ht:(T.lcM' xs [] v tb:T ε _) with
 | no=>trivial
 | er c z =>
  rw[ht]at h1;obtain⟨L3,h4,h5⟩:=h1;exact absurd h4 (uF _ _ _)
 | ok p =>
  rw[ht]at h1;obtain⟨ys,v'⟩:=p;obtain⟨L3,h4,h5⟩:=h1;rw[List.map_nil]at h4;rw[h4];exact h2 ys v' _ h5
def T.lcs {ε ε' α β:Type}(xs:List α)(f:α->T ε' (Option β)):T ε (List β):=(T.lc xs () λ x _=>(f x).bind λ y=>.ok (y,())).bind λ p=>.ok p.1
theorem akt [Enc γ]{vs:List Nat}{f:D->LS->Option LS}{gt:LS->R Bool}{ge:LS->R D}{e:α->D}{xs:List α}{k:S->LS->R ω}(A0:LS)(A1:α->LS)(Bv:LS)(Xe:ε'->LS){tb:α->T ε' (Option γ)}{t':List γ->T ε β}(h0:Mt A0 (wipeL A vs))(hf:∀ x,Tg A0 f (e x) (A1 x))
  (hb:∀ x,SK (A1 x) (lcBody gt ge) (tb x) (λ p=>p.map Enc.enc) (λ _=>Bv) Xe) (hw:Mt A0 (wipeL Bv vs)) (h2:∀ ys,SK A0 (k (.ol (ys.map Enc.enc))) (t' ys) F B X) :
  SK A (λ L=>(lcQ vs f gt ge (xs.map e) L).bind k) ((T.lcs xs tb).bind t') F B X:=by
 have h:=ao9 (X:=X) (F:=F) (B:=B) (A:=A) (v:=()) (k:=k) (xs:=xs) (e:=e) (vs:=vs) (f:=f) (gt:=gt) (ge:=ge) (λ _:Unit=>A0) (λ x _=>A1 x) (λ _=>Bv) Xe (tb:=λ x _=>(tb x).bind λ y=>.ok (y,())) (t':=λ p=>t' p.1) h0 (λ x _=>hf x) (λ x _ L hL=>by
  have h3:=hb x L hL
  cases ht:tb x with
  | no=>trivial
  | er c z=>rw[ht]at h3;exact h3
  | ok y=>rw[ht]at h3;exact h3) (λ _=>hw) (λ ys _=>h2 ys)
 unfold T.lcs
 have e2:((T.lc xs () λ x _=>(tb x).bind λ y=>(.ok (y,()):T ε' _)).bind λ p=>(.ok p.1:T ε _)).bind t'=(T.lc xs () λ x _=>(tb x).bind λ y=>(.ok (y,()):T ε' _)).bind λ p=>t' p.1:=by
  cases (T.lc xs () λ x _=>(tb x).bind λ y=>(.ok (y,()):T ε' _):T ε _)<;>rfl
 rw[e2];exact h
theorem wX:Pu A gYes true:=λ _ _=>rfl
theorem ak8 {gt:LS->R Bool}{ge:LS->R D}{k:Option D->LS->R ω}(h:SK A (λ L=>(gt L).bind λ b L1=>(if b=true then(ge L1).bind λ y L2=>R.ok (some y) L2 else .ok none L1).bind k) t F B X):SK A (λ L=>(lcBody gt ge L).bind k) t F B X:=iI h
theorem acU {ge:LS->R D}{k:Option D->LS->R ω}(h1:SK A (λ L=>(ge L).bind λ y L2=>k (some y) L2) t F B X):SK A (λ L=>(if true=true then(ge L).bind λ y L2=>R.ok (some y) L2 else .ok none L).bind k) t F B X:=iI h1
theorem aku {m:LS->R S}{ns:List Int}{tm:T ε Bool}{Fm:Bool->S}{Bm:Bool->LS}{Xm:ε->LS}(hm:SK [some (.scr ns)] m tm Fm Bm Xm)(hF:Fm true=.d (.bool true))(h:tm=.ok true):∃ L,m [some (.scr ns)]=.ok (.d (.bool true)) L:=by
 have h1:=hm _ (Mt.refl _)
 rw[h]at h1;obtain⟨L,h2,_⟩:=h1;exact⟨L,by rw[h2,hF]⟩
end
theorem ln {α:Type}{l:List α}{n:Nat}(h:l.length=n)(hn:n<=1000:=by decide):l.length<=1000:=by rw[h];exact hn
theorem lnS {α:Type}{l:List α}{n:Nat}(h:l.length=n)(hn:n<=1000:=by decide):l.length<=sizeLine:=by
 rw[h,PySem.sizeLine_eq]
 omega
def ltT (x y:Tx):Bool:=decide (x.s.cps.toList < y.s.cps.toList)
section
variable {ε α β γ ω:Type}{A:LS}{F:β->ω}{B:β->LS}{X:ε->LS}{t:T ε β}
theorem ab4 {T:String}{d:D}{b:Bool}(h:kitB (dTy d) T=some b):isTy T d=some (Enc.enc b):=by
 unfold isTy;rw[h]
 rfl
theorem pY {K:Kont ω}{g1 g2:LS->R O}(h:SS A g1 K t F B X):SK A (λ L=>fin K (if true=true then g1 L else g2 L)) t F B X:=h
theorem Mt.all:∀ {ss:List S} {L:LS},Mt (ss.map some) L->L=ss.map some
 | [],[],_=>rfl
 | [],_::_,h=>by cases h.1
 | s::ss,[],h=>by cases h.1
 | s::ss,y::L,h=>by
  have h0:=h.2 0 s rfl
  have hy:y=some s:=Option.some.inj h0
  rw[hy,Mt.all (ss:=ss) (L:=L) ⟨Nat.succ.inj h.1,λ i s e=>h.2 (i+1) s e⟩]
  rfl
theorem ae3 {ss:List S}{m:LS->R S}{b:β}{F:β->S}{L':LS}(h:m (ss.map some)=.ok (F b) L')(hB:Mt (B b) L'):SK (ss.map some) m (T.ok b:T ε β) F B X:=λ L hL=>by
 rw[hL.all];exact⟨L',h,hB⟩
end
end VS
namespace Ty
open PySem VS Lw
def SrcT:Type:={s:S // Src s}
open Classical in
noncomputable def ae4 (ns:List Int):T Empty SrcT:=if h:ns.length<=63 then .ok ⟨_,aeQ h⟩ else .no
theorem aoH (ns:List Int):SK [some (.scr ns)] Lw.mK (ae4 ns) (λ r=>r.1) (λ _=>[some (.scr ns)]) XV:=by
 unfold ae4
 split
 ·rename_i h
  exact ae3 (ss:=[.scr ns]) (F:=λ r:SrcT=>r.1) (amB h) (Mt.refl _)
 exact aaG
theorem ahI {ns:List Int}(h:ns.length<=63):∃ s,ae4 ns=.ok s:=by
 unfold ae4;rw[dif_pos h];exact⟨_,rfl⟩
def NextQ (s:SrcT)(n:Int)(p:Int×SrcT):Prop:=az [some s.1,some (.d (.int n))]=.ok (.d (.int p.1)) [some p.2.1,none]/\0<=p.1/\p.1 < n
theorem aa6 (s:SrcT){n:Int}(h:0 < n/\n < 1073741824):∃ p,NextQ s n p:=by
 obtain⟨r,s',e,h0,h1,h2⟩:=qI s.2 h.1 h.2;exact⟨(r,⟨s',h2⟩),e,h0,h1⟩
open Classical in
noncomputable def iW (s:SrcT)(n:Int):T Empty (Int×SrcT):=if h:0 < n/\n < 1073741824 then .ok (Classical.choose (aa6 s h)) else .no
theorem jX (s:SrcT)(n:Int):SK [some s.1,dv n] Lw.az (iW s n) (λ r=>.d (Enc.enc r.1)) (λ r=>[some r.2.1,none]) XV:=by
 unfold iW
 split
 ·rename_i h
  exact ae3 (ss:=[s.1,.d (.int n)]) (F:=λ r:Int×SrcT=>.d (.int r.1)) (Classical.choose_spec (aa6 s h)).1 (Mt.refl _)
 exact aaG
theorem cP (s:SrcT){n:Int}(h:0 < n/\n < 1073741824):∃ r s',iW s n=.ok (r,s')/\0<=r/\r < n:=by
 have:=Classical.choose_spec (aa6 s h)
 exact⟨_,_,by unfold iW;rw[dif_pos h],this.2.1,this.2.2⟩
def SmallT (x:Tx):Prop:=∀ c∈x.cs,97<=c.val/\c.val<=122
def GoodT (x:Tx):Prop:=SmallT x/\1<=x.cs.length/\x.cs.length<=12
theorem ab5 {l:List Nat}(h:Small l):∀ c∈l,c < 1114112:=λ c hc=>by have:=h c hc;omega
theorem ahJ {l:List Nat}(h:Small l):(Tx.of l).s=sOf l:=Tx.of_s (ab5 h)
theorem aa7 {l:List Nat}(h:Small l):(Tx.of l).cs.map (·.val)=l:=by
 unfold Tx.of;rw[List.map_map];refine(List.map_congr_left (g:=id) λ c hc=>?_).trans (List.map_id _);show(if h:c < 1114112 then(⟨c,h⟩:Fin 1114112) else _).val=c;rw[dif_pos (ab5 h c hc)]
theorem aiv (l:List Nat):(Tx.of l).cs.length=l.length:=by simp[Tx.of]
theorem ahK {l:List Nat}(h:Small l):SmallT (Tx.of l):=λ c hc=>by
 have:c.val∈(Tx.of l).cs.map (·.val):=List.mem_map_of_mem hc
 rw[aa7 h]at this;exact h _ this
theorem akv {l:List Nat}(h:Good l):GoodT (Tx.of l):=⟨ahK h.1,by rw[aiv];exact h.2.1,by rw[aiv];exact h.2.2⟩
theorem amK {a b:List Nat}(ha:Small a)(hb:Small b)(h:Tx.of a=Tx.of b):a=b:=by rw[←aa7 ha,←aa7 hb,h]
def NamesQ (s:SrcT)(m:Int)(p:List Tx×SrcT):Prop:=jj [some s.1,some (.d (.int m))]=.ok (.ol (p.1.map Enc.enc)) [some p.2.1,none]/\p.1.length=m.toNat/\p.1.Nodup/\∀ n∈p.1,GoodT n
theorem ahL {ns:List (List Nat)}(h:ns.Nodup)(g:∀ n∈ns,Good n):(ns.map Tx.of).Nodup:=by
 rw[List.Nodup,List.pairwise_map];refine List.Pairwise.imp_of_mem (λ ha hb hab z=>hab (amK (g _ ha).1 (g _ hb).1 z)) h
theorem yt (s:SrcT){m:Int}(h:0<=m/\m<=500):∃ p,NamesQ s m p:=by
 obtain⟨ns,s',e,h1,h2,h3,h4⟩:=ahA s.2 h.1 h.2;refine⟨(ns.map Tx.of,⟨s',h4⟩),?_,by rw[List.length_map];exact h1,ahL h2 h3,λ n hn=>?_⟩
 ·rw[e,List.map_map]
  congr 2
  exact List.map_congr_left λ n hn=>by
   show PyData.str (sOf n)=PyData.str (Tx.of n).s;rw[ahJ (h3 n hn).1]
 ·obtain⟨w,hw,rfl⟩:=List.mem_map.mp hn;exact akv (h3 w hw)
open Classical in
noncomputable def vC (s:SrcT)(m:Int):T Empty (List Tx×SrcT):=if h:0<=m/\m<=500 then .ok (Classical.choose (yt s h)) else .no
theorem akx (s:SrcT)(m:Int):SK [some s.1,dv m] Lw.jj (vC s m) (λ r=>.ol (r.1.map Enc.enc)) (λ r=>[some r.2.1,none]) XV:=by
 unfold vC
 split
 ·rename_i h
  exact ae3 (ss:=[s.1,.d (.int m)]) (F:=λ r:List Tx×SrcT=>.ol (r.1.map Enc.enc)) (Classical.choose_spec (yt s h)).1 (Mt.refl _)
 exact aaG
theorem acV (s:SrcT){m:Int}(h:0<=m/\m<=500):∃ ns s',vC s m=.ok (ns,s')/\ns.length=m.toNat/\ns.Nodup/\∀ n∈ns,GoodT n:=by
 have:=Classical.choose_spec (yt s h)
 exact⟨_,_,by unfold vC;rw[dif_pos h],this.2.1,this.2.2.1,this.2.2.2⟩
abbrev Oath:=Tx×Int
abbrev Suit:=Tp4 (List Oath) (List Oath) Int (Option (Int×Tx))
abbrev Marks:=Dt (Int×Tx) Bool
end Ty
namespace VS
open PySem L2
section
variable {ε ε' α β γ ν ρ:Type}
def T.Post (t:T ε α)(P:α->Prop):Prop:=∃ a,t=.ok a/\P a
theorem bM {a:α}{P:α->Prop}(h:P a):(T.ok a:T ε α).Post P:=⟨a,rfl,h⟩
theorem post_of {t:T ε α}{a:α}{P:α->Prop}(e:t=.ok a)(h:P a):t.Post P:=⟨a,e,h⟩
theorem cQ {t:T ε α}{k:α->T ε β}{P:α->Prop}{Q:β->Prop}(h:t.Post P)(h2:∀ a,P a->(k a).Post Q):(t.bind k).Post Q:=by
 obtain⟨a,rfl,ha⟩:=h;exact h2 a ha
theorem rZ {t:T ε α}{P Q:α->Prop}(h:t.Post P)(k:∀ a,P a->Q a):t.Post Q:=by
 obtain⟨a,e,ha⟩:=h;exact⟨a,e,k a ha⟩
theorem nO {p:Prop}[Decidable p]{t:T ε α}{P:α->Prop}(hp:p)(h:t.Post P):(T.gd p t).Post P:=by
 rw[T.gd_of hp];exact h
theorem cC {o:Option α}{k:α->T ε β}{Q:β->Prop}{a:α}(e:o=some a)(h:(k a).Post Q):((T.ofO o).bind k).Post Q:=by
 subst e
 exact h
theorem acW {t:T ε (T.Le ν ρ)}{n:ν->T ε β}{r:ρ->T ε β}{P:ν->Prop}{Q:β->Prop}(h:t.Post λ z=>∃ v,z=.nx v/\P v)(h2:∀ v,P v->(n v).Post Q):(T.bindL t n r).Post Q:=by
 obtain⟨z,rfl,v,rfl,hv⟩:=h;exact h2 v hv
theorem aa {a:α}{k:α->T ε β}:(T.ofO (some a)).bind k=k a:=rfl
theorem forM_nil {v:ν}{f:α->ν->T ε ν}:T.forM [] v f=.ok v:=rfl
theorem lD {x:α}{xs:List α}{v:ν}{f:α->ν->T ε ν}:T.forM (x::xs) v f=(f x v).bind λ v'=>T.forM xs v' f:=rfl
theorem sr {f:α->ν->T ε ν}(Inv:List α->ν->Prop){xs:List α}{v:ν}(h0:Inv [] v)(hs:∀ pre x post v,xs=pre++x::post->Inv pre v->(f x v).Post (Inv (pre++[x]))):(T.forM xs v f).Post (Inv xs):=by
 have key:∀ (post pre:List α) (v:ν),xs=pre++post->Inv pre v->(T.forM post v f).Post (Inv xs):=by
  intro post
  induction post with
  | nil =>
   intro pre v e h;rw[List.append_nil]at e
   subst e
   exact bM h
  | cons x post ih =>
   intro pre v e h;exact cQ (hs pre x post v e h) λ v' h'=>ih (pre++[x]) v' (by rw[e];simp) h'
 exact key xs [] v rfl h0
theorem aa8 (n:Nat):rangeT (n+1)=rangeT n++[(n:Int)]:=by
 unfold rangeT;rw[List.range_succ,List.map_append]
 rfl
theorem pM (n:Nat):(rangeT n).length=n:=by unfold rangeT;simp
theorem ahM {f:Int->ν->T ε ν}(Inv:Nat->ν->Prop){n:Nat}{v:ν}(h0:Inv n v)(hs:∀ (i:Nat) v,i < n->Inv (i+1) v->(f (i:Int) v).Post (Inv i)):(T.forM (rangeT n).reverse v f).Post (Inv 0):=by
 induction n generalizing v with
 | zero=>exact bM h0
 | succ n ih =>
  rw[aa8,List.reverse_append];exact cQ (hs n v (Nat.lt_succ_self n) h0) λ v' h'=>ih h' λ i v hi=>hs i v (Nat.lt_succ_of_lt hi)
theorem aab {f:α->ν->T ε ν}{g:α->ν->ν}:∀ {xs:List α} {v:ν},(∀ x∈xs,∀ v,f x v=.ok (g x v))->T.forM xs v f=.ok (xs.foldl (λ v x=>g x v) v)
 | [],v,_=>rfl
 | x::xs,v,h=>by
  rw[lD,h x List.mem_cons_self v];exact aab λ y hy v=>h y (List.mem_cons_of_mem _ hy) v
theorem vD {f:α->Unit->T ε (T.Lp Unit ρ)}{p:α->Bool}{r:ρ}:∀ {xs:List α},(∀ x∈xs,f x ()=if p x=true then .ok (.rt r) else .ok (.nx ()))->T.forL xs () f=if xs.any p=true then .ok (.rt r) else .ok (.nx ())
 | [],_=>rfl
 | x::xs,h=>by
  show(f x ()).bind _=_;rw[h x List.mem_cons_self,List.any_cons]
  cases p x with
  | true=>rfl
  | false =>
   rw[Bool.false_or];exact vD λ y hy=>h y (List.mem_cons_of_mem _ hy)
theorem sz (n:Nat)(h:n<=1000000):n<=sizeLine:=by rw[PySem.sizeLine_eq];omega
theorem szl (n:Nat)(h:n<=1000000):n < sizeLine:=by rw[PySem.sizeLine_eq];omega
theorem ab6 {xs:List α}{p:α->Bool}{h:α->β}(hs:xs.length<=1000000):(T.lcp xs p h:T ε (List β))=.ok ((xs.filter p).map h):=if_pos (sz _ hs)
theorem ae5 {f:α->ν->T ε' (Option β×ν)}{g:α->Option β}{v:ν}:∀ {xs:List α} {acc:List β},acc.length+xs.length<=1000000->(∀ x∈xs,f x v=.ok (g x,v))->(T.lcM' xs acc v f:T ε _)=.ok (acc++xs.filterMap g,v)
 | [],acc,_,_=>by simp[T.lcM']
 | x::xs,acc,hs,h=>by
  rw[List.length_cons]at hs;unfold T.lcM';rw[h x List.mem_cons_self]
  cases hg:g x with
  | none =>
   show T.lcM' xs acc v f=_;rw[ae5 (by omega) λ y hy=>h y (List.mem_cons_of_mem _ hy),List.filterMap_cons_none hg]
  | some y =>
   show T.gd _ (T.lcM' xs (acc++[y]) v f)=_;rw[T.gd_of (szl _ (by omega)),ae5 (by rw[List.length_append];simp;omega) λ y hy=>h y (List.mem_cons_of_mem _ hy),List.filterMap_cons_some hg,List.append_assoc]
   rfl
theorem ab7 {f:α->T ε' (Option β)}{g:α->Option β}{xs:List α}(hs:xs.length<=1000000)(h:∀ x∈xs,f x=.ok (g x)):(T.lcs xs f:T ε (List β))=.ok (xs.filterMap g):=by
 unfold T.lcs T.lc;rw[ae5 (g:=g) (by simpa using hs) λ x hx=>by rw[h x hx];rfl]
 simp[T.bind]
theorem lN (xs:List α)(j:Nat):atI xs (j:Int)=xs[j]?:=by
 unfold atI ixN;rw[if_pos (by omega)]
 by_cases h:j < xs.length
 ·rw[if_pos (by omega)]
  rfl
 ·rw[if_neg (by omega),List.getElem?_eq_none (by omega)]
  rfl
theorem pZ {xs:List α}{i:Int}(h0:0<=i)(h1:i < xs.length):atI xs i=some (xs[i.toNat]'(by omega)):=by
 obtain⟨j,rfl⟩:=Int.eq_ofNat_of_zero_le h0;rw[lN];exact List.getElem?_eq_getElem _
theorem ahN {xs:List α}{j:Nat}{x:α}(h:j < xs.length):setT xs (j:Int) x=some (xs.set j x):=by
 unfold setT ixN;rw[if_pos (by omega),if_pos (by omega)]
 rfl
theorem cA {xs ys:List α}(h:xs.length+ys.length<=1000000):catT xs ys=some (xs++ys):=if_pos (sz _ h)
theorem ahO (x:α)(n:Nat)(h:n<=1000000):repT [x] (n:Int)=some (List.replicate n x):=by
 unfold repT
 rw[if_pos (by
  unfold repOk;refine decide_eq_true ⟨by omega,by omega,?_⟩;rw[PySem.sizeLine_eq]
  simp
  omega)]
 congr 1
 rw[Int.toNat_natCast]
 induction n with
 | zero=>rfl
 | succ n ih =>
  rw[List.replicate_succ,List.flatten_cons,ih (by omega),List.replicate_succ]
  rfl
theorem ahP {j:Int}(h0:0<=j)(h1:j<=1000000):inR j:=amI (by omega) (by omega)
theorem ab2 {xs:List α}{k:Int}(h0:0<=k):cutT xs none (some k)=xs.take k.toNat:=by
 unfold cutT;obtain⟨j,rfl⟩:=Int.eq_ofNat_of_zero_le h0
 have e1:HT.sIx xs.length 0 none=0:=rfl
 have e2:HT.sIx xs.length xs.length (some (j:Int))=min j xs.length:=by
  unfold HT.sIx
  simp only[]
  rw[if_neg (by omega),Int.toNat_natCast]
 rw[e1,e2]
 simp
theorem kJ {xs:List α}{k:Int}(h0:0<=k):cutT xs (some k) none=xs.drop k.toNat:=by
 unfold cutT;obtain⟨j,rfl⟩:=Int.eq_ofNat_of_zero_le h0
 have e1:HT.sIx xs.length 0 (some (j:Int))=min j xs.length:=by
  unfold HT.sIx
  simp only[]
  rw[if_neg (by omega),Int.toNat_natCast]
 have e2:HT.sIx xs.length xs.length none=xs.length:=rfl
 rw[e1,e2]
 by_cases h:j<=xs.length
 ·rw[Nat.min_eq_left h,Int.toNat_natCast,List.take_of_length_le (by rw[List.length_drop];omega)]
 ·rw[Nat.min_eq_right (by omega),Int.toNat_natCast,List.drop_eq_nil_of_le (Nat.le_refl _),List.drop_eq_nil_of_le (by omega),List.take_nil]
section
variable {κ:Type}[DecidableEq κ]
theorem ab8 (k:κ):dget ([]:Dt κ α) k=none:=rfl
theorem nQ (d:Dt κ α)(k:κ):(dget d k).isSome=d.any λ p=>decide (p.1=k):=by
 unfold dget
 induction d with
 | nil=>rfl
 | cons p d ih =>
  rw[List.any_cons]
  by_cases h:p.1=k
  ·rw[List.find?_cons_of_pos (by simp[h])]
   simp[h]
  ·rw[List.find?_cons_of_neg (by simp[h])]
   simp[h,ih]
theorem yu (d:Dt κ α)(k k':κ)(v:α):dget (dput d k v) k'=if k=k' then some v else dget d k':=by
 unfold dput
 by_cases ha:(d.any λ p=>decide (p.1=k))=true
 ·rw[if_pos ha];unfold dget
  induction d with
  | nil=>simp at ha
  | cons p d ih =>
   rw[List.map_cons]
   by_cases h:p.1=k
   ·rw[if_pos h]
    by_cases hk:k=k'
    ·rw[List.find?_cons_of_pos (by simp[h,hk]),if_pos hk]
     rfl
    ·rw[List.find?_cons_of_neg (by simp[h,hk]),if_neg hk,List.find?_cons_of_neg (by simp[h,hk])]
     have:=hk
     by_cases hd:(d.any λ p=>decide (p.1=k))=true
     ·have i:=ih hd
      rw[if_neg hk]at i;exact i
     ·have e:d.map (λ p=>if p.1=k then(p.1,v) else p)=d:=by
       refine(List.map_congr_left (g:=id) λ q hq=>?_).trans (List.map_id _);rw[if_neg]
       ·rfl
       ·intro z;exact hd (List.any_eq_true.mpr ⟨q,hq,by simp[z]⟩)
      rw[e]
   ·rw[if_neg h]
    have hd:(d.any λ p=>decide (p.1=k))=true:=by
     rw[List.any_cons]at ha
     simpa [h] using ha
    by_cases h':p.1=k'
    ·rw[List.find?_cons_of_pos (by simp[h']),List.find?_cons_of_pos (by simp[h']),if_neg λ z=>h (h'.trans z.symm)]
    ·rw[List.find?_cons_of_neg (by simp[h']),List.find?_cons_of_neg (by simp[h'])];exact ih hd
 ·rw[if_neg ha];unfold dget;rw[List.find?_append]
  by_cases hk:k=k'
  ·rw[if_pos hk]
   have:d.find? (λ p=>decide (p.1=k'))=none:=by
    rw[List.find?_eq_none];intro q hq z;exact ha (List.any_eq_true.mpr ⟨q,hq,by simpa [hk] using z⟩)
   rw[this]
   simp[hk]
  ·rw[if_neg hk]
   cases e:d.find? (λ p=>decide (p.1=k')) with
   | some q=>rfl
   | none=>simp[hk]
theorem ab9 (d:Dt κ α)(k:κ)(v:α):(dput d k v).length<=d.length+1:=by
 unfold dput
 split
 ·rw[List.length_map];omega
 ·rw[List.length_append];simp
end
end
end VS
noncomputable section
namespace Ty
open PySem VS Lw L2
def yw (side:(List Oath)):T Empty (Int) :=
 (T.lcp side (λ(i1:Oath)=>true) (λ i1=>i1.2)).bind λ l2 =>
 .ok (List.sum l2:Int)
def kW (side:(List Oath))(case_:Int)(marks:Marks):T Empty (Int) :=
 (T.lcp side (λ(i1:Oath)=>(!(dget marks (case_,i1.1)).isSome)) (λ i1=>((i1.1,i1.2):Oath))).bind λ l2 =>
 (yw l2).bind λ r3 =>
 .ok r3
def qO (suit:Suit)(case_:Int)(marks:Marks):T Empty (Int) :=
 (kW suit.a case_ marks).bind λ r1 =>
 (kW suit.b case_ marks).bind λ r2 =>
 .ok ((r1 - r2) - suit.c)
def nR (apF:(List Suit))(marks:Marks):T Empty ((List Bool)×Marks) :=
 (T.ofO (repT (([false]:List Bool):(List Bool)) ((List.length apF:Nat):Int))).bind λ x1 =>
 T.gd (inR ((List.length apF:Nat):Int)) <|
 (T.forM ((rangeT (Int.toNat ((List.length apF:Nat):Int))).reverse) ((marks,x1):Marks×(List Bool)) (λ(i2:Int) (marks5,told6)=>(((T.ofO (atI apF i2)).bind λ x7 =>
 (qO x7 i2 marks5).bind λ r8 =>
 (T.ofO (setT told6 i2 (decide ((0:Int)<=r8)))).bind λ told9 =>
 (T.ofO (atI told9 i2)).bind λ x10 =>
 if x10=true then(if(Option.isSome x7.d)=true then((T.ofO x7.d).bind λ u11 =>
 T.gd (marks5.length < sizeLine) <|
 .ok ((dput marks5 u11 true),told9)) else(.ok (marks5,told9))) else(.ok (marks5,told9))):T Empty (Marks×(List Bool))))).bind λ(marks5,told6) =>
 .ok (told6,marks5)
def aac (apF:(List Suit)):T Empty ((List Bool)) :=
 (nR apF ([]:Marks)).bind λ(r1,_g1) =>
 .ok r1
end Ty
namespace Ty
open PySem VS L2
structure SideOk (zs:List Oath):Prop where
 nd:(zs.map (·.1)).Nodup
 wt:∀ z∈zs,1<=z.2/\z.2<=1000/\GoodT z.1
def namesOf (u:Suit):List Tx:=(u.a++u.b).map (·.1)
structure SOk (us:List Suit):Prop where
 len:us.length<=60
 side:∀ u∈us,SideOk (u.a++u.b)/\(u.a++u.b).length<=24/\1<=u.c/\u.c<=12000
 named:∀ (i:Nat) (u:Suit) (k:Int×Tx),us[i]?=some u->u.d=some k->∃ (j:Nat) (w:Suit),k.1=(j:Int)/\j < i/\us[j]?=some w/\k.2∈namesOf w
def sumW (zs:List Oath):Int:=(zs.map (·.2)).sum
def aky (us:List Suit)(o:Option (Int×Tx)):Prop:=∀ k,o=some k->∃ (j:Nat) (w:Suit),k.1=(j:Int)/\us[j]?=some w/\k.2∈namesOf w
def brkB (us:List Suit)(apz:List Bool)(k:Int×Tx):Bool:=(us.zip apz).any λ p=>p.2&&decide (p.1.d=some k)
def keptW (zs:List Oath)(c:Int)(b:Int×Tx->Bool):Int:=sumW (zs.filter λ o=>!b (c,o.1))
def margB (u:Suit)(c:Int)(b:Int×Tx->Bool):Int:=keptW u.a c b - keptW u.b c b - u.c
theorem tG {us:List Suit}{apz:List Bool}{k:Int×Tx}:brkB us apz k=true↔∃ (j:Nat) (u:Suit),us[j]?=some u/\apz[j]?=some true/\u.d=some k:=by
 unfold brkB;rw[List.any_eq_true]
 constructor
 ·rintro⟨p,hp,h⟩;obtain⟨j,hj,e⟩:=List.getElem_of_mem hp
  have e':=List.getElem?_eq_some_iff.mpr ⟨hj,e⟩
  obtain⟨h1,h2⟩:=List.getElem?_zip_eq_some.mp e'
  simp only[Bool.and_eq_true,decide_eq_true_eq]at h
  exact⟨j,p.1,h1,by rw[h2,h.1],h.2⟩
 ·rintro⟨j,u,h1,h2,h3⟩;refine⟨(u,true),?_,by simp[h3]⟩;exact List.mem_of_getElem? (List.getElem?_zip_eq_some.mpr ⟨h1,h2⟩)
theorem vG {zs:List Oath}{c:Int}{b b':Int×Tx->Bool}(h:∀ o∈zs,b (c,o.1)=b' (c,o.1)):keptW zs c b=keptW zs c b':=by
 unfold keptW;rw[List.filter_congr λ o ho=>by rw[h o ho]]
theorem lE {u:Suit}{c:Int}{b b':Int×Tx->Bool}(h:∀ n,b (c,n)=b' (c,n)):margB u c b=margB u c b':=by
 unfold margB;rw[vG λ o _=>h o.1,vG λ o _=>h o.1]
structure Settles (us:List Suit)(b0:Int×Tx->Bool)(apz:List Bool):Prop where
 len:apz.length=us.length
 at_:∀ (c:Nat) (u:Suit),us[c]?=some u->apz[c]?=some (decide (0<=margB u c λ k=>b0 k||brkB us apz k))
theorem yx (zs:List Oath)(h:zs.length<=1000000):yw zs=.ok (sumW zs):=by
 unfold yw;rw[ab6 h,T.ok_bind,List.filter_eq_self.mpr λ _ _=>rfl]
 rfl
theorem qd (zs:List Oath)(c:Int)(ms:Marks)(h:zs.length<=1000000):kW zs c ms=.ok (keptW zs c λ k=>(dget ms k).isSome):=by
 unfold kW;rw[ab6 h,T.ok_bind,yx _ (by rw[List.length_map];exact Nat.le_trans (List.length_filter_le ..) h),T.ok_bind]
 congr 1
 unfold keptW
 congr 1
 exact List.map_id _
theorem aad (u:Suit)(c:Int)(ms:Marks)(h1:u.a.length<=1000000)(h2:u.b.length<=1000000):qO u c ms=.ok (margB u c λ k=>(dget ms k).isSome):=by
 unfold qO;rw[qd _ _ _ h1,T.ok_bind,qd _ _ _ h2,T.ok_bind]
 rfl
theorem SOk.sz {us:List Suit}(h:SOk us){u:Suit}(hu:u∈us):u.a.length<=24/\u.b.length<=24:=by
 have:=(h.side u hu).2.1
 rw[List.length_append]at this
 omega
theorem yz {us:List Suit}{apz:List Bool}{c:Nat}{u:Suit}{b:Bool}(hu:us[c]?=some u)(hc:apz[c]?=some false)(k:Int×Tx):brkB us (apz.set c b) k=(brkB us apz k||(b&&decide (u.d=some k))):=by
 have hlt:=(List.getElem?_eq_some_iff.mp hc).1
 rw[Bool.eq_iff_iff,Bool.or_eq_true,Bool.and_eq_true,decide_eq_true_eq,tG,tG]
 constructor
 ·rintro⟨j,w,h1,h2,h3⟩
  by_cases hj:c=j
  ·subst hj
   rw[hu]at h1
   cases h1
   rw[List.getElem?_set_self hlt]at h2;exact .inr ⟨Option.some.inj h2,h3⟩
  ·rw[List.getElem?_set_ne hj]at h2;exact .inl ⟨j,w,h1,h2,h3⟩
 ·rintro(⟨j,w,h1,h2,h3⟩ | ⟨rfl,h3⟩)
  ·have hj:c≠j:=λ z=>by subst z;rw[hc]at h2;cases h2
   exact⟨j,w,h1,by rw[List.getElem?_set_ne hj];exact h2,h3⟩
  ·exact⟨c,u,hu,List.getElem?_set_self hlt,h3⟩
theorem qP {us:List Suit}(hs:SOk us)(ms:Marks)(hm:ms.length<=1000):(nR us ms).Post λ p=>Settles us (λ k=>(dget ms k).isSome) p.1/\(∀ k,(dget p.2 k).isSome=((dget ms k).isSome||brkB us p.1 k))/\p.2.length<=ms.length+60:=by
 unfold nR
 have hl:=hs.len
 refine cC (ahO false us.length (by omega)) (nO (ahP (by omega) (by omega)) ?_);rw[Int.toNat_natCast]
 refine cQ (ahM (λ i (v:Marks×List Bool)=>v.2.length=us.length/\(∀ j,j < i->j < us.length->v.2[j]?=some false)/\(∀ k,(dget v.1 k).isSome=((dget ms k).isSome||brkB us v.2 k))/\v.1.length+i<=ms.length+us.length /\
  ∀ (c:Nat) (u:Suit),i<=c->us[c]?=some u->v.2[c]?=some (decide (0<=margB u c λ k=>(dget ms k).isSome||brkB us v.2 k))) ?_ ?_) ?_
 ·refine⟨by simp,λ j _ hj=>by simp[hj],λ k=>?_,Nat.le_refl _,λ c u hc hu=>?_⟩
  ·have:brkB us (List.replicate us.length false) k=false:=by
    rw[Bool.eq_false_iff];intro z;obtain⟨j,u,_,h2,_⟩:=tG.mp z;rw[List.getElem?_replicate]at h2
    split at h2<;>cases h2
   rw[this,Bool.or_false]
  ·have:=(List.getElem?_eq_some_iff.mp hu).1
   omega
 ·rintro c ⟨m,apz⟩ hc ⟨a1,a2,a3,a4,a5⟩
  dsimp only at a1 a2 a3 a4 a5 ⊢
  have hu:us[c]?=some us[c]:=List.getElem?_eq_getElem hc
  generalize us[c]=u at hu
  have hmem:u∈us:=List.mem_of_getElem? hu
  have hz:=hs.sz hmem
  have hfc:apz[c]?=some false:=a2 c (by omega) hc
  have hct:c < apz.length:=by omega
  refine cC (by rw[lN];exact hu) ?_;rw[aad _ _ _ (by omega) (by omega),T.ok_bind]
  have em:(margB u c λ k=>(dget m k).isSome)=margB u c λ k=>(dget ms k).isSome||brkB us apz k:=lE λ n=>a3 _
  rw[em]
  generalize hb:decide (0<=margB u c λ k=>(dget ms k).isSome||brkB us apz k)=b
  refine cC (ahN hct) ?_
  have hget:atI (apz.set c b) (c:Int)=some b:=by rw[lN,List.getElem?_set_self hct]
  -- what the names of a case name lies ahead of it
  have ahead:∀ k,u.d=some k->k.1 < (c:Int):=λ k hk=>by
   obtain⟨j,w,h1,h2,_⟩:=hs.named c u k hu hk
   omega
  have later:∀ (j:Nat) (n:Tx),c<=j->brkB us (apz.set c b) ((j:Int),n)=brkB us apz ((j:Int),n):=λ j n hj=>by
   rw[yz hu hfc]
   have:decide (u.d=some ((j:Int),n))=false:=decide_eq_false λ z=>by
    have:=ahead _ z
    dsimp only at this
    omega
   rw[this,Bool.and_false,Bool.or_false]
  have keep:∀ (m':Marks),(∀ k,(dget m' k).isSome=((dget ms k).isSome||brkB us (apz.set c b) k))->m'.length<=m.length+1->(T.ok (m',apz.set c b):T Empty _).Post λ v:Marks×List Bool=>v.2.length=us.length/\(∀ j,j < c->j < us.length->v.2[j]?=some false)/\(∀ k,(dget v.1 k).isSome=((dget ms k).isSome||brkB us v.2 k))/\v.1.length+c<=ms.length+us.length /\
    ∀ (d:Nat) (u:Suit),c<=d->us[d]?=some u->v.2[d]?=some (decide (0<=margB u d λ k=>(dget ms k).isSome||brkB us v.2 k)):=λ m' h1 h2=>by
   refine bM ⟨by dsimp only;rw[List.length_set];exact a1,λ j hj hj2=>?_,h1,by dsimp only;omega,λ d w hd hw=>?_⟩
   ·dsimp only
    rw[List.getElem?_set_ne (by omega)];exact a2 j (by omega) hj2
   ·dsimp only
    have e2:(margB w d λ k=>(dget ms k).isSome||brkB us (apz.set c b) k)=margB w d λ k=>(dget ms k).isSome||brkB us apz k:=lE λ n=>by rw[later d n hd]
    rw[e2]
    by_cases hcd:c=d
    ·subst hcd
     rw[hu]at hw
     cases hw
     rw[List.getElem?_set_self hct,hb]
    ·rw[List.getElem?_set_ne hcd];exact a5 d w (by omega) hw
  rw[hget]
  cases b with
  | false =>
   simp only[aa,Bool.false_eq_true,if_false]
   refine keep m (λ k=>?_) (by omega);rw[a3,yz hu hfc]
   simp
  | true =>
   simp only[aa,if_true]
   cases hd:u.d with
   | none =>
    simp only[Option.isSome_none,Bool.false_eq_true,if_false]
    refine keep m (λ k=>?_) (by omega);rw[a3,yz hu hfc,hd]
    simp
   | some k0 =>
    simp only[Option.isSome_some,if_true,aa]
    refine nO (szl _ (by omega)) (keep _ (λ k=>?_) (ab9 ..));rw[yu,yz hu hfc,hd]
    by_cases hk:k0=k
    ·rw[if_pos hk]
     simp[hk]
    ·rw[if_neg hk,a3]
     have:decide (some k0=some k)=false:=decide_eq_false λ z=>hk (Option.some.inj z)
     rw[this]
     simp
 ·rintro⟨m,apz⟩ ⟨a1,a2,a3,a4,a5⟩
  dsimp only at a1 a2 a3 a4 a5 ⊢
  exact bM ⟨⟨a1,λ c u hu=>a5 c u (Nat.zero_le _) hu⟩,a3,by dsimp only;omega⟩
abbrev no0:Int×Tx->Bool:=λ _=>false
theorem aae {us:List Suit}(hs:SOk us):(aac us).Post λ apz=>Settles us no0 apz:=by
 unfold aac;refine cQ (qP hs [] (by simp)) ?_;rintro⟨apz,m⟩ ⟨h,_,_⟩;exact bM h
end Ty
noncomputable section
namespace Ty
open PySem VS L2
theorem vH {us:List Suit}(hs:SOk us){b0:Int×Tx->Bool}{t1 t2:List Bool}(h1:Settles us b0 t1)(h2:Settles us b0 t2):t1=t2:=by
 have key:∀ (k c:Nat),us.length<=c+k->c<=us.length->∀ j,c<=j->t1[j]?=t2[j]?:=by
  intro k
  induction k with
  | zero =>
   intro c hc _ j hj;rw[List.getElem?_eq_none (by rw[h1.len];omega),List.getElem?_eq_none (by rw[h2.len];omega)]
  | succ k ih =>
   intro c hc hc2 j hj
   by_cases hcn:c=us.length
   ·exact ih c (by omega) hc2 j hj
   have hlt:c < us.length:=by omega
   have ih':=ih (c+1) (by omega) (by omega)
   by_cases hjc:j=c
   ·subst hjc
    have hu:us[j]?=some us[j]:=List.getElem?_eq_getElem hlt
    rw[h1.at_ j _ hu,h2.at_ j _ hu]
    have e:∀ n:Tx,brkB us t1 ((j:Int),n)=brkB us t2 ((j:Int),n):=λ n=>by
     rw[Bool.eq_iff_iff,tG,tG]
     constructor
     ·rintro⟨i,w,e1,e2,e3⟩;obtain⟨q,_,a1,a2,_⟩:=hs.named i w _ e1 e3
      dsimp only at a1
      exact⟨i,w,e1,by rw[←ih' i (by omega)];exact e2,e3⟩
     ·rintro⟨i,w,e1,e2,e3⟩;obtain⟨q,_,a1,a2,_⟩:=hs.named i w _ e1 e3
      dsimp only at a1
      exact⟨i,w,e1,by rw[ih' i (by omega)];exact e2,e3⟩
    rw[lE (b':=λ k=>b0 k||brkB us t2 k) λ n=>by rw[e n]]
   ·exact ih' j (by omega)
 exact List.ext_getElem? λ j=>key us.length 0 (by omega) (Nat.zero_le _) j (Nat.zero_le _)
structure Rows (n:Nat)(rows:List (List Bool)):Prop where
 len:rows.length=2 ^ n
 nd:rows.Nodup
 mem:∀ r,r∈rows↔r.length=n
end Ty
namespace VS
open PySem L2
def enT {α:Type}:Nat->List α->List (Int×α)
 | _,[]=>[]
 | i,x::xs=>((i:Nat),x)::enT (i+1) xs
section
variable {α β γ ε ν ω:Type}{A:LS}{t:T ε β}{F:β->ω}{B:β->LS}{X:ε->LS}
theorem yC:∀ (xs:List α) (i:Nat),(enT i xs).length=xs.length
 | [],_=>rfl
 | x::xs,i=>by
  show(enT (i+1) xs).length+1=xs.length+1;rw[yC xs (i+1)]
theorem nU:∀ (xs:List α) (i j:Nat),(enT i xs)[j]?=(xs[j]?).map λ x=>(((i+j:Nat):Int),x)
 | [],i,j=>rfl
 | x::xs,i,0=>rfl
 | x::xs,i,j+1=>by
  show(enT (i+1) xs)[j]?=(xs[j]?).map _;rw[nU xs (i+1) j]
  have:i+1+j=i+(j+1):=by omega
  rw[this]
theorem amL {xs:List α}{pre post:List (Int×α)}{x:Int×α}(e:enT 0 xs=pre++x::post):x.1=(pre.length:Int)/\xs[pre.length]?=some x.2/\xs.length=pre.length+post.length+1:=by
 have h:=nU xs 0 pre.length
 rw[e,List.getElem?_append_right (Nat.le_refl _),Nat.sub_self]at h
 have l:=congrArg List.length e
 rw[yC,List.length_append,List.length_cons]at l
 cases hx:xs[pre.length]? with
 | none=>rw[hx]at h;cases h
 | some y =>
  rw[hx]at h
  have h:x=(((0+pre.length:Nat):Int),y):=Option.some.inj h
  rw[h,Nat.zero_add];exact⟨rfl,rfl,by omega⟩
theorem ae6 {ρ:Type}{f:α->ν->T ε (T.Lp ν ρ)}(Inv:List α->ν->Prop){xs:List α}{v:ν}(h0:Inv [] v)(hs:∀ pre x post v,xs=pre++x::post->Inv pre v->(f x v).Post λ z=>∃ v',z=.nx v'/\Inv (pre++[x]) v'):(T.forL xs v f).Post λ z=>∃ v',z=.nx v'/\Inv xs v':=by
 have key:∀ (post pre:List α) (v:ν),xs=pre++post->Inv pre v->(T.forL post v f).Post λ z=>∃ v',z=.nx v'/\Inv xs v':=by
  intro post
  induction post with
  | nil =>
   intro pre v e h;rw[List.append_nil]at e
   subst e
   exact bM ⟨v,rfl,h⟩
  | cons x post ih =>
   intro pre v e h;show((f x v).bind _).Post _;obtain⟨z,e1,v',rfl,h'⟩:=hs pre x post v e h;rw[e1];exact ih (pre++[x]) v' (by rw[e];simp) h'
 exact key xs [] v rfl h0
end
end VS
noncomputable section
namespace Ty
open PySem VS L2
def chF (us:List Suit):Nat->Nat->List Int
 | 0,_=>[]
 | n+1,c=>match us[c]? with
  | some u=>(match u.d with
   | some k=>k.1::chF us n k.1.toNat
   | none=>[])
  | none=>[]
def ch (us:List Suit)(c:Nat):List Int:=chF us (c+1) c
end Ty
namespace Ty
open PySem VS Lw
open Classical in
noncomputable def vI (d e:D):T Empty Bool:=if Pl 12 d/\Pl 12 e then .ok (eqb d e) else .no
theorem akz (d e:D):SK [dv d,dv e] (Lw.iG 12) (vI d e) (λ r=>.d (Enc.enc r)) (λ _=>[none,none]) XV:=by
 unfold vI
 split
 ·rename_i h
  exact ae3 (ss:=[.d d,.d e]) (F:=λ r:Bool=>.d (.bool r)) (yo 12 d e h.1 h.2) (Mt.refl _)
 exact aaG
theorem akA:∀ (k:Nat) (d:D),Pl k d->Pl (k+1) d
 | 0,_,h=>h.elim
 | k+1,d,h=>by
  cases d with
  | none=>trivial
  | bool b=>trivial
  | int b=>trivial
  | str b=>trivial
  | list xs=>exact λ x hx=>akA k x (h x hx)
  | tuple xs=>exact λ x hx=>akA k x (h x hx)
  | dict b=>exact h.elim
theorem sE {k m:Nat}(hk:k<=m){d:D}(h:Pl k d):Pl m d:=by
 induction m with
 | zero =>
  have:k=0:=by omega
  subst this
  exact h
 | succ m ih =>
  by_cases e:k=m+1
  ·subst e;exact h
  ·exact akA m d (ih (by omega))
class Pln (α:Type)[Enc α] where
 dp:Nat
 pl:∀ x:α,Pl (dp+1) (Enc.enc x)
 inj:∀ x y:α,Enc.enc x=Enc.enc y->x=y
class Nn (α:Type)[Enc α]:Prop where
 nn:∀ x:α,Enc.enc x≠PyData.none
instance:Pln Int:=⟨0,λ _=>trivial,λ _ _ h=>by injection h⟩
instance:Pln Bool:=⟨0,λ _=>trivial,λ _ _ h=>by injection h⟩
instance:Pln Unit:=⟨0,λ _=>trivial,λ _ _ _=>rfl⟩
instance:Pln Tx:=⟨0,λ _=>trivial,λ _ _ h=>Tx.s_inj (by injection h)⟩
instance:Nn Int:=⟨λ _ h=>by cases h⟩
instance:Nn Bool:=⟨λ _ h=>by cases h⟩
instance:Nn Tx:=⟨λ _ h=>by cases h⟩
section
variable {α β γ δ ε:Type}[Enc α][Enc β][Enc γ][Enc δ][Enc ε]
theorem map_inj [i:Pln α]:∀ {xs ys:List α},xs.map (Enc.enc:α->D)=ys.map Enc.enc->xs=ys
 | [],[],_=>rfl
 | [],_::_,h=>by cases h
 | _::_,[],h=>by cases h
 | x::xs,y::ys,h=>by
  rw[List.map_cons,List.map_cons]at h
  injection h with h1 h2
  rw[i.inj x y h1,map_inj h2]
instance [i:Pln α]:Pln (List α):=⟨i.dp+1,λ xs d hd=>by
 obtain⟨x,hx,rfl⟩:=List.mem_map.mp hd
 exact i.pl x,λ xs ys h=>map_inj (by injection h)⟩
instance:Nn (List α):=⟨λ _ h=>by cases h⟩
instance [i:Pln α][Nn α]:Pln (Option α):=⟨i.dp,λ o=>by
 cases o with
 | none=>trivial
 | some x=>exact i.pl x,λ x y h=>by
 cases x with
 | none =>
  cases y with
  | none=>rfl
  | some y=>exact absurd h.symm (Nn.nn y)
 | some x =>
  cases y with
  | none=>exact absurd h (Nn.nn x)
  | some y=>rw[i.inj x y h]⟩
instance [i:Pln α][j:Pln β]:Pln (α×β):=⟨max i.dp j.dp+1,λ p d hd=>by
 simp at hd
 rcases hd with rfl | rfl
 ·exact sE (by omega) (i.pl p.1)
 ·exact sE (by omega) (j.pl p.2),λ p q h=>by
 have h:PyData.tuple [Enc.enc p.1,Enc.enc p.2]=PyData.tuple [Enc.enc q.1,Enc.enc q.2]:=h
 simp only[PyData.tuple.injEq,List.cons.injEq,and_true]at h
 exact Prod.ext (i.inj _ _ h.1) (j.inj _ _ h.2)⟩
instance:Nn (α×β):=⟨λ _ h=>by cases h⟩
instance [i:Pln α][j:Pln β][k:Pln γ]:Pln (Tp3 α β γ):=⟨i.dp+j.dp+k.dp+1,λ p d hd=>by
 simp at hd
 rcases hd with rfl | rfl | rfl
 ·exact sE (by omega) (i.pl p.a)
 ·exact sE (by omega) (j.pl p.b)
 ·exact sE (by omega) (k.pl p.c),λ p q h=>by
 have h:PyData.tuple [Enc.enc p.a,Enc.enc p.b,Enc.enc p.c]=PyData.tuple [Enc.enc q.a,Enc.enc q.b,Enc.enc q.c]:=h
 simp only[PyData.tuple.injEq,List.cons.injEq,and_true]at h
 obtain⟨p1,p2,p3⟩:=p
 obtain⟨q1,q2,q3⟩:=q
 rw[i.inj p1 q1 h.1,j.inj p2 q2 h.2.1,k.inj p3 q3 h.2.2]⟩
instance:Nn (Tp3 α β γ):=⟨λ _ h=>by cases h⟩
instance [i:Pln α][j:Pln β][k:Pln γ][l:Pln δ]:Pln (Tp4 α β γ δ):=⟨i.dp+j.dp+k.dp+l.dp+1,λ p d hd=>by
 simp at hd
 rcases hd with rfl | rfl | rfl | rfl
 ·exact sE (by omega) (i.pl p.a)
 ·exact sE (by omega) (j.pl p.b)
 ·exact sE (by omega) (k.pl p.c)
 ·exact sE (by omega) (l.pl p.d),λ p q h=>by
 have h:PyData.tuple [Enc.enc p.a,Enc.enc p.b,Enc.enc p.c,Enc.enc p.d]=PyData.tuple [Enc.enc q.a,Enc.enc q.b,Enc.enc q.c,Enc.enc q.d]:=h
 simp only[PyData.tuple.injEq,List.cons.injEq,and_true]at h
 obtain⟨p1,p2,p3,p4⟩:=p
 obtain⟨q1,q2,q3,q4⟩:=q
 rw[i.inj p1 q1 h.1,j.inj p2 q2 h.2.1,k.inj p3 q3 h.2.2.1,l.inj p4 q4 h.2.2.2]⟩
instance:Nn (Tp4 α β γ δ):=⟨λ _ h=>by cases h⟩
instance [i:Pln α][j:Pln β][k:Pln γ][l:Pln δ][m:Pln ε]:Pln (Tp5 α β γ δ ε):=⟨i.dp+j.dp+k.dp+l.dp+m.dp+1,λ p d hd=>by
 simp at hd
 rcases hd with rfl | rfl | rfl | rfl | rfl
 ·exact sE (by omega) (i.pl p.a)
 ·exact sE (by omega) (j.pl p.b)
 ·exact sE (by omega) (k.pl p.c)
 ·exact sE (by omega) (l.pl p.d)
 ·exact sE (by omega) (m.pl p.e),λ p q h=>by
 have h:PyData.tuple [Enc.enc p.a,Enc.enc p.b,Enc.enc p.c,Enc.enc p.d,Enc.enc p.e]=PyData.tuple [Enc.enc q.a,Enc.enc q.b,Enc.enc q.c,Enc.enc q.d,Enc.enc q.e]:=h
 simp only[PyData.tuple.injEq,List.cons.injEq,and_true]at h
 obtain⟨p1,p2,p3,p4,p5⟩:=p
 obtain⟨q1,q2,q3,q4,q5⟩:=q
 rw[i.inj p1 q1 h.1,j.inj p2 q2 h.2.1,k.inj p3 q3 h.2.2.1,l.inj p4 q4 h.2.2.2.1,m.inj p5 q5 h.2.2.2.2]⟩
instance:Nn (Tp5 α β γ δ ε):=⟨λ _ h=>by cases h⟩
end
end Ty
noncomputable section
namespace VS
open PySem L2
open PySem.W (dataLe)
section
variable {α β γ κ ε ν ω:Type}{A:LS}{t:T ε β}{F:β->ω}{B:β->LS}{X:ε->LS}
def sortT [Enc α](xs:List α):Option (List α):=if sortOk (xs.map Enc.enc)=true then some (xs.mergeSort (dataLe false Enc.enc)) else none
theorem wY [Enc α]{xs ys:List α}(h:sortT xs=some ys):ys.Perm xs:=by
 unfold sortT at h
 split at h
 ·cases h
  exact List.mergeSort_perm xs _
 ·cases h
theorem ae7 [Enc α](a b:α):dataLe false Enc.enc a b=true∨dataLe false Enc.enc b a=true:=by
 have:=(W.sortLe_total (PyProof.Rows.listOrd PyProof.Rows.itemOrd) false λ b:α=>W.keyToks (Enc.enc b)).total a b
 exact this
theorem ae8 [Enc α](a b c:α)(h1:dataLe false Enc.enc a b=true)(h2:dataLe false Enc.enc b c=true):dataLe false Enc.enc a c=true:=(W.sortLe_total (PyProof.Rows.listOrd PyProof.Rows.itemOrd) false λ b:α=>W.keyToks (Enc.enc b)).trans a b c h1 h2
theorem t8 [Enc α]{xs ys:List α}(h:sortT xs=some ys):ys.Pairwise λ a b=>dataLe false Enc.enc a b=true:=by
 unfold sortT at h
 split at h
 ·cases h
  exact List.pairwise_mergeSort (le:=dataLe false Enc.enc) (λ a b c=>ae8 a b c) (λ a b=>by rw[Bool.or_eq_true];exact ae7 a b) xs
 ·cases h
end
class SrtE (α:Type)[Enc α]:Prop where
 alike:∀ a b:α,W.alike (Enc.enc a) (Enc.enc b)=true
 kind:(∀ a:α,aio (Enc.enc a)=true)∨∀ a:α,noTup (Enc.enc a)=true
 dep:∀ a:α,(Enc.enc a:D).depth<=60
 inj:∀ a b:α,W.keyToks (Enc.enc a)=W.keyToks (Enc.enc b)->a=b
class SrtA (α:Type)[Enc α]:Prop where
 alike:∀ a b:α,W.alike (Enc.enc a) (Enc.enc b)=true
 kind:∀ a:α,noTup (Enc.enc a)=true
 dep:∀ a:α,(Enc.enc a:D).depth=0
 one:∀ a:α,∃ k,W.keyToks (Enc.enc a)=[k]
 inj:∀ a b:α,W.keyToks (Enc.enc a)=W.keyToks (Enc.enc b)->a=b
instance:SrtA Int:=⟨λ a b=>by show W.alike (.int a) (.int b)=true;simp only[W.alike],λ a=>rfl,λ a=>by show PyData.depth (.int a)=0;simp only[PyData.depth],λ a=>⟨.inl a,by show W.keyToks (.int a)=_;simp only[W.keyToks]⟩,λ a b h=>by
 have h:W.keyToks (.int a)=W.keyToks (.int b):=h
 simp only[W.keyToks]at h
 simpa using h⟩
instance:SrtA Tx:=⟨λ a b=>by show W.alike (.str a.s) (.str b.s)=true;simp only[W.alike],λ a=>rfl,λ a=>by show PyData.depth (.str a.s)=0;simp only[PyData.depth],λ a=>⟨.inr a.s.cps.toList,by show W.keyToks (.str a.s)=_;simp only[W.keyToks]⟩,λ a b h=>by
 have h:W.keyToks (.str a.s)=W.keyToks (.str b.s):=h
 simp only[W.keyToks]at h
 have h:a.s.cps.toList=b.s.cps.toList:=by simpa using h
 exact Tx.s_inj (W.str_of_cps h)⟩
section
variable {α β γ:Type}[Enc α][Enc β][Enc γ]
instance (priority:=low)[i:SrtA α]:SrtE α:=⟨i.alike,.inr i.kind,λ a=>by rw[i.dep];omega,i.inj⟩
instance [i:SrtA α][j:SrtA β]:SrtE (α×β):=⟨λ a b=>by
 show W.alike (.tuple [Enc.enc a.1,Enc.enc a.2]) (.tuple [Enc.enc b.1,Enc.enc b.2])=true
 simp only[W.alike,W.alikeAll,i.alike,j.alike]
 rfl,.inl λ a=>rfl,λ a=>by
 show PyData.depth (.tuple [Enc.enc a.1,Enc.enc a.2])<=60
 simp only[PyData.depth,PyData.depthAll,i.dep,j.dep]
 omega,λ a b h=>by
 have h:W.keyToks (.tuple [Enc.enc a.1,Enc.enc a.2])=W.keyToks (.tuple [Enc.enc b.1,Enc.enc b.2]):=h
 obtain⟨k1,e1⟩:=i.one a.1
 obtain⟨k2,e2⟩:=j.one a.2
 obtain⟨m1,f1⟩:=i.one b.1
 obtain⟨m2,f2⟩:=j.one b.2
 simp only[W.keyToks,W.keyToksAll,e1,e2,f1,f2,List.cons_append,List.nil_append,List.cons.injEq,true_and,and_true]at h
 exact Prod.ext (i.inj _ _ (by rw[e1,f1,h.1])) (j.inj _ _ (by rw[e2,f2,h.2]))⟩
instance [i:SrtA α][j:SrtA β][k:SrtA γ]:SrtE (Tp3 α β γ):=⟨λ a b=>by
 show W.alike (.tuple [Enc.enc a.a,Enc.enc a.b,Enc.enc a.c]) (.tuple [Enc.enc b.a,Enc.enc b.b,Enc.enc b.c])=true
 simp only[W.alike,W.alikeAll,i.alike,j.alike,k.alike]
 rfl,.inl λ a=>rfl,λ a=>by
 show PyData.depth (.tuple [Enc.enc a.a,Enc.enc a.b,Enc.enc a.c])<=60
 simp only[PyData.depth,PyData.depthAll,i.dep,j.dep,k.dep]
 omega,λ a b h=>by
 have h:W.keyToks (.tuple [Enc.enc a.a,Enc.enc a.b,Enc.enc a.c])=W.keyToks (.tuple [Enc.enc b.a,Enc.enc b.b,Enc.enc b.c]):=h
 obtain⟨k1,e1⟩:=i.one a.a
 obtain⟨k2,e2⟩:=j.one a.b
 obtain⟨k3,e3⟩:=k.one a.c
 obtain⟨m1,f1⟩:=i.one b.a
 obtain⟨m2,f2⟩:=j.one b.b
 obtain⟨m3,f3⟩:=k.one b.c
 simp only[W.keyToks,W.keyToksAll,e1,e2,e3,f1,f2,f3,List.cons_append,List.nil_append,List.cons.injEq,true_and,and_true]at h
 have x1:=i.inj a.a b.a (by rw[e1,f1,h.1])
 have x2:=j.inj a.b b.b (by rw[e2,f2,h.2.1])
 have x3:=k.inj a.c b.c (by rw[e3,f3,h.2.2])
 cases a
 cases b
 simp only at x1 x2 x3
 rw[x1,x2,x3]⟩
theorem yD [i:SrtE α]{xs:List α}(h:xs.length<=1000000):sortT xs=some (xs.mergeSort (dataLe false Enc.enc)):=by
 unfold sortT;rw[if_pos];unfold sortOk
 simp only[Bool.and_eq_true,Bool.or_eq_true,List.all_eq_true,decide_eq_true_eq,List.length_map]
 refine⟨λ d hd e he=>?_,?_,λ d hd=>?_,sz _ h⟩
 ·obtain⟨x,_,rfl⟩:=List.mem_map.mp hd;obtain⟨y,_,rfl⟩:=List.mem_map.mp he;exact i.alike x y
 ·rcases i.kind with k | k
  ·exact .inl λ d hd=>by
    obtain⟨x,_,rfl⟩:=List.mem_map.mp hd;exact k x
  ·exact .inr λ d hd=>by
    obtain⟨x,_,rfl⟩:=List.mem_map.mp hd;exact k x
 ·obtain⟨x,_,rfl⟩:=List.mem_map.mp hd;exact i.dep x
theorem akB [i:SrtE α](a b:α)(h1:dataLe false Enc.enc a b=true)(h2:dataLe false Enc.enc b a=true):a=b:=by
 refine i.inj a b ?_
 have h1:(!PyProof.Rows.lexLt PyProof.Rows.itemOrd (W.keyToks (Enc.enc b)) (W.keyToks (Enc.enc a)))=true:=h1
 have h2:(!PyProof.Rows.lexLt PyProof.Rows.itemOrd (W.keyToks (Enc.enc a)) (W.keyToks (Enc.enc b)))=true:=h2
 rw[Bool.not_eq_true']at h1 h2;exact PyProof.Rows.lex_total _ _ h2 h1
theorem sort_one [i:SrtE α]{xs ys:List α}(hp:xs.Perm ys)(h1:xs.Pairwise λ a b=>dataLe false Enc.enc a b=true)(h2:ys.Pairwise λ a b=>dataLe false Enc.enc a b=true):xs=ys :=
 List.Perm.eq_of_pairwise (λ a b _ _ h1 h2=>akB a b h1 h2) h1 h2 hp
theorem ahQ [i:SrtE α]{xs ys:List α}(hp:ys.Perm xs)(hs:ys.Pairwise λ a b=>dataLe false Enc.enc a b=true)(h:xs.length<=1000000):sortT xs=some ys:=by
 rw[yD h]
 have e:=yD h
 rw[sort_one ((wY e).trans hp.symm) (t8 e) hs]
end
end VS
noncomputable section
namespace Ty
open PySem VS Lw L2
def vJ (apF:(List Suit)):T Empty ((List (Int×Tx))) :=
 (T.forM (enT 0 apF) (([]:List (Int×Tx)):(List (Int×Tx))) (λ(i1:(Int×Suit)) found3=>(((T.ofO (catT i1.2.a i1.2.b)).bind λ x4 =>
 (T.forM x4 (found3:(List (Int×Tx))) (λ(i5:Oath) found7=>((T.gd (found7.length < sizeLine) <|
 .ok (found7++[(i1.1,i5.1)])):T Empty ((List (Int×Tx)))))).bind λ found7 =>
 .ok found7):T Empty ((List (Int×Tx)))))).bind λ found3 =>
 (T.ofO (sortT found3)).bind λ x8 =>
 .ok x8
def lY (apF:(List Suit)):T Empty (Marks) :=
 (nR apF ([]:Marks)).bind λ(r1,marks2) =>
 .ok marks2
def pN (apF:(List Suit)):T Empty ((List (Int×Tx))) :=
 (lY apF).bind λ r1 =>
 (T.ofO (sortT (List.map (λ p=>p.1) r1))).bind λ x2 =>
 .ok x2
end Ty
namespace VS
open PySem L2
section
variable {ε α β ν:Type}
def T.Wp (t:T ε α)(P:α->Prop):Prop:=∀ a,t=.ok a->P a
theorem ae9 {a:α}{P:α->Prop}(h:P a):(T.ok a:T ε α).Wp P:=λ b e=>by cases e;exact h
theorem wp_bind {t:T ε α}{k:α->T ε β}{Q:β->Prop}(h:∀ a,t=.ok a->(k a).Wp Q):(t.bind k).Wp Q:=λ b e=>by
 cases ht:t with
 | ok a=>rw[ht]at e;exact h a ht b e
 | er c x=>rw[ht]at e;cases e
 | no=>rw[ht]at e;cases e
theorem amM {p:Prop}[Decidable p]{t:T ε α}{P:α->Prop}(h:p->t.Wp P):(T.gd p t).Wp P:=λ b e=>by
 unfold T.gd at e
 split at e
 ·exact h (by assumption) b e
 ·cases e
theorem aaf {o:Option α}{k:α->T ε β}{Q:β->Prop}(h:∀ a,o=some a->(k a).Wp Q):((T.ofO o).bind k).Wp Q:=λ b e=>by
 cases o with
 | none=>cases e
 | some a=>exact h a rfl b e
theorem aiw {c:Prop}[Decidable c]{t u:T ε α}{P:α->Prop}(h1:c->t.Wp P)(h2:¬ c->u.Wp P):(if c then t else u).Wp P:=by
 split
 ·exact h1 (by assumption)
 ·exact h2 (by assumption)
theorem akC {f:α->ν->T ε ν}(Inv:ν->Prop){v:ν}:∀ {xs:List α},Inv v->(∀ x v,Inv v->(f x v).Wp Inv)->(T.forM xs v f).Wp Inv:=by
 intro xs
 induction xs generalizing v with
 | nil=>intro h _;exact ae9 h
 | cons x xs ih=>intro h hs;exact wp_bind λ v' e=>ih (hs x v h v' e) hs
theorem akD {t:T ε α}{P Q:α->Prop}(h:t.Post P)(h2:t.Wp Q):t.Post λ a=>P a/\Q a:=by
 obtain⟨a,e,ha⟩:=h;exact⟨a,e,ha,h2 a e⟩
end
section
variable {κ α:Type}[DecidableEq κ]
def NdK (d:Dt κ α):Prop:=(d.map (·.1)).Nodup
theorem afa {d:Dt κ α}(h:NdK d)(k:κ)(v:α):NdK (dput d k v):=by
 unfold NdK dput at *
 split
 ·have:(d.map λ p=>if p.1=k then(p.1,v) else p).map (·.1)=d.map (·.1):=by
   rw[List.map_map];refine List.map_congr_left λ p _=>?_;show(if p.1=k then(p.1,v) else p).1=p.1
   split<;>rfl
  rw[this];exact h
 ·rename_i hn
  rw[List.map_append,List.nodup_append];refine⟨h,by simp,λ a ha b hb=>?_⟩
  simp at hb
  subst hb
  obtain⟨p,hp,rfl⟩:=List.mem_map.mp ha;exact λ z=>hn (List.any_eq_true.mpr ⟨p,hp,by simp[z]⟩)
theorem ahR {d:Dt κ α}{k:κ}:k∈d.map (·.1)↔(dget d k).isSome=true:=by
 rw[nQ,List.any_eq_true,List.mem_map]
 constructor
 ·rintro⟨p,h1,h2⟩;exact⟨p,h1,by simp[h2]⟩
 ·rintro⟨p,h1,h2⟩;exact⟨p,h1,by simpa using h2⟩
end
end VS
namespace Ty
open PySem VS L2
open PySem.W (dataLe)
theorem afb (us:List Suit)(ms:Marks)(h:NdK ms):(nR us ms).Wp λ p=>NdK p.2:=by
 unfold nR;refine aaf λ x1 _=>amM λ _=>wp_bind λ v hv=>?_
 have:=akC (ε:=Empty) (λ v:Marks×List Bool=>NdK v.1) (v:=(ms,x1)) h (λ i v hi=>?_) v hv
 ·exact ae9 this
 ·obtain⟨m,apz⟩:=v
  dsimp only at hi ⊢
  refine aaf λ x7 _=>wp_bind λ r8 _=>aaf λ told9 _=>aaf λ x10 _=>aiw (λ _=>aiw (λ _=>aaf λ u _=>amM λ _=>ae9 (afa hi _ _)) λ _=>ae9 hi) λ _=>ae9 hi
theorem acX {us:List Suit}(hs:SOk us){apz:List Bool}(ht:Settles us no0 apz):∃ m,lY us=.ok m/\NdK m/\(∀ k,(dget m k).isSome=brkB us apz k)/\m.length<=60:=by
 unfold lY;obtain⟨⟨t2,m⟩,e,⟨h1,h2,h3⟩,h4⟩:=akD (qP hs [] (by simp)) (afb us [] List.nodup_nil)
 have:t2=apz:=vH hs h1 ht
 subst this
 rw[e];exact⟨m,rfl,h4,λ k=>by rw[h2 k];simp[ab8],by simpa using h3⟩
def jM (us:List Suit):List (Int×Tx):=(enT 0 us).flatMap λ p=>(namesOf p.2).map λ n=>(p.1,n)
theorem amN {us:List Suit}{c:Int}{n:Tx}:(c,n)∈jM us↔∃ (j:Nat) (u:Suit),c=j/\us[j]?=some u/\n∈namesOf u:=by
 unfold jM;rw[List.mem_flatMap]
 constructor
 ·rintro⟨p,hp,hq⟩;obtain⟨j,hj,e⟩:=List.getElem_of_mem hp
  have e':=List.getElem?_eq_some_iff.mpr ⟨hj,e⟩
  rw[nU]at e';obtain⟨x,hx,rfl⟩:=Option.map_eq_some_iff.mp e';obtain⟨m,hm,e2⟩:=List.mem_map.mp hq
  cases e2
  rw[Nat.zero_add];exact⟨j,x,rfl,hx,hm⟩
 ·rintro⟨j,u,rfl,hu,hn⟩;refine⟨((j:Int),u),?_,List.mem_map.mpr ⟨n,hn,rfl⟩⟩;refine List.mem_of_getElem? (i:=j) ?_;rw[nU,hu,Nat.zero_add]
  rfl
theorem aa9 {us:List Suit}(hs:∀ u∈us,(namesOf u).Nodup):∀ i:Nat,((enT i us).flatMap λ p=>(namesOf p.2).map λ n=>(p.1,n)).Nodup:=by
 induction us with
 | nil=>intro i;exact List.nodup_nil
 | cons u us ih =>
  intro i;show(List.flatMap _ (((i:Int),u)::enT (i+1) us)).Nodup;rw[List.flatMap_cons,List.nodup_append];refine⟨?_,ih (λ w hw=>hs w (List.mem_cons_of_mem _ hw)) (i+1),?_⟩
  ·rw[List.Nodup,List.pairwise_map];exact List.Pairwise.imp (λ h z=>h (by cases z;rfl)) (hs u List.mem_cons_self)
  ·intro a ha b hb z
   subst z
   obtain⟨n,_,rfl⟩:=List.mem_map.mp ha;obtain⟨p,hp,hq⟩:=List.mem_flatMap.mp hb;obtain⟨m,_,e⟩:=List.mem_map.mp hq
   have e1:p.1=(i:Int):=congrArg Prod.fst e
   obtain⟨j,hj,e2⟩:=List.getElem_of_mem hp
   have e3:=List.getElem?_eq_some_iff.mpr ⟨hj,e2⟩
   rw[nU]at e3;obtain⟨x,hx,e4⟩:=Option.map_eq_some_iff.mp e3;rw[←e4]at e1
   dsimp only at e1
   omega
theorem SOk.nd {us:List Suit}(hs:SOk us):∀ u∈us,(namesOf u).Nodup:=λ u hu=>(hs.side u hu).1.nd
theorem vK {us:List Suit}(hs:SOk us){u:Suit}(hu:u∈us):(namesOf u).length<=24:=by
 unfold namesOf;rw[List.length_map];exact(hs.side u hu).2.1
theorem wB {us:List Suit}(hs:SOk us):∃ f,(T.forM (enT 0 us) (([]:List (Int×Tx)):(List (Int×Tx))) (λ(i1:(Int×Suit)) found3=>(((T.ofO (catT i1.2.a i1.2.b)).bind λ x4 =>
 (T.forM x4 (found3:(List (Int×Tx))) (λ(i5:Oath) found7=>((T.gd (found7.length < sizeLine) <|
 .ok (found7++[(i1.1,i5.1)])):T Empty ((List (Int×Tx)))))).bind λ found7 =>
 .ok found7):T Empty ((List (Int×Tx))))))=.ok f/\f=jM us:=by
 have hl:=hs.len
 have key:=sr (ε:=Empty) (xs:=enT 0 us) (v:=([]:List (Int×Tx))) (f:=λ(i1:(Int×Suit)) found3=>(((T.ofO (catT i1.2.a i1.2.b)).bind λ x4 =>
  (T.forM x4 (found3:(List (Int×Tx))) (λ(i5:Oath) found7=>((T.gd (found7.length < sizeLine) <|
  .ok (found7++[(i1.1,i5.1)])):T Empty ((List (Int×Tx)))))).bind λ found7 =>
  .ok found7):T Empty ((List (Int×Tx))))) (λ pre found=>found=pre.flatMap (λ p=>(namesOf p.2).map λ n=>(p.1,n))/\found.length<=24 * pre.length) ⟨rfl,Nat.le_refl _⟩ ?_
 ·obtain⟨f,e,h,_⟩:=key;exact⟨f,e,h⟩
 ·rintro pre x post found hx ⟨h1,h2⟩;obtain⟨x1,x2,x3⟩:=amL hx
  have hm:x.2∈us:=List.mem_of_getElem? x2
  have hz:=hs.sz hm
  refine cC (cA (by omega)) ?_;refine cQ (P:=λ v=>v=found++(namesOf x.2).map λ n=>(x.1,n)) ?_ λ v hv=>bM ?_
  ·refine rZ (sr (λ p2 v=>v=found++p2.map λ o:Oath=>(x.1,o.1)) (by simp) ?_) λ v hv=>?_
   ·rintro p2 o q2 v ho rfl
    have hlen:=congrArg List.length ho
    rw[List.length_append,List.length_append,List.length_cons]at hlen;refine nO (szl _ (by rw[List.length_append,List.length_map];omega)) (bM ?_);rw[List.map_append,List.append_assoc]
    rfl
   ·rw[hv];unfold namesOf;rw[List.map_map]
    rfl
  ·subst hv
   have hn:=vK hs hm
   refine⟨by rw[List.flatMap_append,h1];simp,?_⟩;rw[List.length_append,List.length_append,List.length_map,List.length_singleton]
   omega
theorem afc {us:List Suit}(hs:SOk us):(jM us).length<=1440:=by
 have go:∀ (l:List (Int×Suit)),(∀ p∈l,(namesOf p.2).length<=24)->(l.flatMap λ p=>(namesOf p.2).map λ n=>(p.1,n)).length<=24 * l.length:=by
  intro l
  induction l with
  | nil=>intro _;exact Nat.le_refl _
  | cons p l ih =>
   intro h
   have h1:=h p List.mem_cons_self
   have h2:=ih λ q hq=>h q (List.mem_cons_of_mem _ hq)
   rw[List.flatMap_cons,List.length_append,List.length_map,List.length_cons]
   omega
 have:=go (enT 0 us) λ p hp=>by
  obtain⟨j,hj,e⟩:=List.getElem_of_mem hp
  have e':=List.getElem?_eq_some_iff.mpr ⟨hj,e⟩
  rw[nU]at e';obtain⟨x,hx,rfl⟩:=Option.map_eq_some_iff.mp e';exact vK hs (List.mem_of_getElem? hx)
 rw[yC]at this
 have hl:=hs.len
 unfold jM
 omega
structure Oaths (us:List Suit)(ol:List (Int×Tx)):Prop where
 srt:ol.Pairwise λ a b=>dataLe false Enc.enc a b=true
 perm:ol.Perm (jM us)
theorem qj {us:List Suit}(hs:SOk us):(vJ us).Post λ p=>Oaths us p:=by
 unfold vJ;obtain⟨f,e,rfl⟩:=wB hs
 have hl:=afc hs
 rw[e,T.ok_bind]
 have e2:=yD (xs:=jM us) (by omega)
 exact cC e2 (bM ⟨t8 e2,wY e2⟩)
theorem Oaths.mem {us:List Suit}{ol:List (Int×Tx)}(h:Oaths us ol){k:Int×Tx}:k∈ol↔k∈jM us:=h.perm.mem_iff
theorem Oaths.nd {us:List Suit}(hs:SOk us){ol:List (Int×Tx)}(h:Oaths us ol):ol.Nodup:=h.perm.nodup_iff.mpr (aa9 hs.nd 0)
theorem aag {us:List Suit}(hs:SOk us){apz:List Bool}(ht:Settles us no0 apz){ol:List (Int×Tx)}(ho:Oaths us ol):pN us=.ok (ol.filter λ k=>brkB us apz k):=by
 unfold pN;obtain⟨m,e,h1,h2,h3⟩:=acX hs ht;rw[e,T.ok_bind]
 have hp:(ol.filter λ k=>brkB us apz k).Perm (m.map (·.1)):=by
  rw[List.perm_ext_iff_of_nodup ((ho.nd hs).filter _) h1];intro k;rw[List.mem_filter,ahR,h2 k,ho.mem];refine⟨λ h=>h.2,λ h=>⟨?_,h⟩⟩;obtain⟨j,u,a1,a2,a3⟩:=tG.mp h;obtain⟨i,w,b1,b2,b3,b4⟩:=hs.named j u k a1 a3;exact amN.mpr ⟨i,w,b1,b3,b4⟩
 rw[ahQ hp (ho.srt.filter _) (by rw[List.length_map];omega)]
 rfl
end Ty
noncomputable section
namespace VS
open PySem L2
section
variable {α β γ κ ε ν ω:Type}{A A':LS}{t:T ε β}{F:β->ω}{B:β->LS}{X:ε->LS}
def optS [Enc α](o:Option (List α)):S:=match o with
 | none=>.d .none
 | some xs=>.ol (xs.map Enc.enc)
theorem amO [Enc α]{i:Nat}{o:Option (List α)}{k:D->LS->R ω}(h:A[i]?=some (some (optS o)))(h2:SK (A.set i (dv o)) (k (Enc.enc o)) t F B X):SK A (λ L=>(gVar i L).bind k) t F B X:=λ L hL=>by
 show SimR ((gVar i L).bind k) t F B X;unfold gVar;rw[hL.2 i _ h]
 cases o with
 | none =>
  have h3:=h2 (L.set i (dv (none:Option (List α)))) (hL.set i _)
  have e:L.set i (dv (none:Option (List α)))=L:=by
   have hl:=hL.2 i _ h
   refine List.ext_getElem? λ j=>?_
   by_cases hj:i=j
   ·subst hj
    rw[List.getElem?_set_self (List.getElem?_eq_some_iff.mp hl).1];exact hl.symm
   ·rw[List.getElem?_set_ne hj]
  rw[e]at h3;exact h3
 | some xs=>exact h2 _ (hL.set i _)
theorem pO:∀ xs:List Tx,strsOf (xs.map Enc.enc)=some (xs.map Tx.s)
 | []=>rfl
 | x::xs=>by
  show(strsOf (xs.map Enc.enc)).map (x.s::·)=_;rw[pO xs]
  rfl
def cntT (xs:List Tx)(k:Tx):Int:=((xs.filter λ x=>decide (x=k)).length:Nat)
theorem akE (xs:List Tx)(k:Tx):dCount (.list (xs.map Enc.enc)) (Enc.enc k)=some (Enc.enc (cntT xs k)):=by
 show(strsOf (xs.map Enc.enc)).map (λ ys=>PyData.int (jC k.s ys:Nat))=_;rw[pO]
 have:jC k.s (xs.map Tx.s)=(xs.filter λ x=>decide (x=k)).length:=by
  unfold jC;rw[List.countP_map,List.countP_eq_length_filter]
  congr 1
  refine List.filter_congr λ x _=>?_;show(x.s.cps.toList == k.s.cps.toList)=decide (x=k)
  by_cases h:x=k
  ·subst h
   simp
  ·rw[decide_eq_false h];exact beq_eq_false_iff_ne.mpr λ z=>h (Tx.s_inj (W.str_of_cps z))
 show some (PyData.int (jC k.s (xs.map Tx.s):Nat))=_;rw[this]
 rfl
def ddN (xs:List Tx):Nat:=(ddS (xs.map Tx.s)).length
def aba (xs:List Tx):Option Int:=if xs.length < 4000 then some (ddN xs:Int) else none
section
variable [DecidableEq κ][Enc κ][Enc α]
end
end
end VS
namespace VS
open PySem PySem.Spec PyProof.Rows L2
section
variable {ε ε' α β γ κ ω:Type}{A:LS}{t:T ε β}{F:β->ω}{B:β->LS}{X:ε->LS}
theorem aah {k:LS->R ω}{a:α}{t':α->T ε β}(h:SK A k (t' a) F B X):SK A k ((T.ofO (some a)).bind t') F B X:=h
theorem amP [Enc κ][Enc1 κ][i:KD1 κ](x:κ):kD (Enc1.k1 x)=(Enc.enc x:D):=by
 have h:=i.eq x
 generalize Enc1.k1 x=k at h
 generalize (Enc.enc x:D)=d at h
 cases d<;>cases h<;>rfl
end
section
variable {ε ε' α β γ κ ω:Type}{A:LS}{t:T ε β}{F:β->ω}{B:β->LS}{X:ε->LS}
theorem amQ [Enc α]{i:Nat}{o:Option (List α)}(h:A[i]?=some (some (optS o))):Pu A (gOp dIs (gPeek i) (gC .none)) (Enc.enc o.isNone):=λ L hL=>by
 have h1:=hL.2 i _ h
 show(gPeek i L).bind (λ d L1=>(R.ok PyData.none L1:R D).bind λ e L2=>ofO (dIs d e) L2)=_;unfold gPeek;rw[h1]
 cases o<;>rfl
end
section
variable {ε ε' α β γ κ ω:Type}{A:LS}{t:T ε β}{F:β->ω}{B:β->LS}{X:ε->LS}
end
section
variable {ε' α β γ κ ω:Type}{A:LS}{t:T Empty β}{F:β->ω}{B:β->LS}{X:Empty->LS}
end
section
variable {ε ε' α β γ κ ν ω:Type}{A:LS}{t:T ε β}{F:β->ω}{B:β->LS}{X:ε->LS}
theorem akF {m:LS->R S}{as:List Ag}{gs:List Nat}{k:S->LS->R ω}(h:SK A (λ L=>(j8 as L).bind λ xs L1=>(if(refs (xs++gs.map Av.r)).Nodup then callAt m (xs++gs.map Av.r) L1 else .stuck).bind k) t F B X):SK A (λ L=>(gCallG m as gs L).bind k) t F B X:=iI h
theorem amR {k:List Av->LS->R ω}(h:SK A (k []) t F B X):SK A (λ L=>(j8 [] L).bind k) t F B X:=h
theorem aph {g:LS->R D}{as:List Ag}{k:List Av->LS->R ω}(h:SK A (λ L=>(g L).bind λ d L1=>(j8 as L1).bind λ xs L2=>k (.d d::xs) L2) t F B X):SK A (λ L=>(j8 (.d g::as) L).bind k) t F B X:=λ L hL=>by
 have h:=h L hL
 dsimp only at h
 show SimR (((g L).bind λ d L1=>(j8 as L1).bind λ xs L2=>R.ok (Av.d d::xs) L2).bind k) t F B X;rw[bx]
 cases e:g L with
 | stuck=>rw[e]at h;exact h
 | err c L1=>rw[e]at h;exact h
 | ok d L1 =>
  rw[e]at h;show SimR (((j8 as L1).bind λ xs L2=>R.ok (Av.d d::xs) L2).bind k) t F B X;rw[bx];exact h
end
section
variable {α β γ κ ν ω:Type}{A:LS}{t:T Empty β}{F:β->ω}{B:β->LS}{X:Empty->LS}
end
def o8 (x:Tx):T Empty Bool:=if x.cs.length<=100000 then .ok (Lw.isN (x.cs.map (·.val))) else .no
theorem afd (x:Tx):SK [dv x] Lw.mJ (o8 x) (λ r=>.d (Enc.enc r)) (λ _=>[none]) XV:=by
 unfold o8
 split
 ·rename_i h
  have e:=Lw.acP (w:=x.cs.map λ c=>c.val) (by rw[List.length_map];exact h)
  rw[show Lw.sOf (x.cs.map λ c=>c.val)=x.s from rfl]at e;exact ae3 (ss:=[.d (.str x.s)]) (F:=λ r:Bool=>.d (.bool r)) e (Mt.refl _)
 exact aaG
inductive Itx where
 | i (n:Int)
 | t (x:Tx)
deriving DecidableEq
instance:Enc Itx:=⟨λ x=>match x with
 | .i n=>Enc.enc n
 | .t x=>Enc.enc x⟩
def Itx.toT:Itx->Option Tx
 | .t x=>some x
 | .i _=>none
def Itx.toI:Itx->Option Int
 | .t _=>none
 | .i n=>some n
instance:Sh Itx where
 dep:=0
 nn:=λ x h=>by
  cases x with
  | i n=>cases h
  | t x=>cases h
 lay:=λ x=>by
  cases x with
  | i n=>exact(inferInstance:Sh Int).lay n
  | t x=>exact(inferInstance:Sh Tx).lay x
 dp:=λ x=>by
  cases x with
  | i n=>exact(inferInstance:Sh Int).dp n
  | t x=>exact(inferInstance:Sh Tx).dp x
 eqv:=λ x y=>by
  cases x with
  | i n =>
   cases y with
   | i m =>
    refine((inferInstance:Sh Int).eqv n m).trans ?_
    rw[decide_eq_decide]
    exact⟨λ h=>by rw[h],λ h=>by injection h⟩
   | t y =>
    rw[show decide (Itx.i n=Itx.t y)=false from decide_eq_false λ h=>by cases h]
    rfl
  | t x =>
   cases y with
   | i m =>
    rw[show decide (Itx.t x=Itx.i m)=false from decide_eq_false λ h=>by cases h]
    rfl
   | t y =>
    refine((inferInstance:Sh Tx).eqv x y).trans ?_
    rw[decide_eq_decide]
    exact⟨λ h=>by rw[h],λ h=>by injection h⟩
end VS
noncomputable section
namespace VS
open PySem L2
theorem aoI {σ:List Str}{x:Str}:σ.any (· == x)=true↔x∈σ:=by
 rw[List.any_eq_true];exact⟨λ⟨y,h1,h2⟩=>by rw[←beq_iff_eq.mp h2];exact h1,λ h=>⟨x,h,beq_self_eq_true x⟩⟩
theorem amS:∀ (xs σ:List Str),σ.Nodup->((xs.foldl ddAdd σ).length=σ.length+xs.length↔(σ++xs).Nodup)
 | [],σ,h=>by simp[h]
 | x::xs,σ,h=>by
  rw[List.foldl_cons,List.length_cons]
  have hle:=vf xs (ddAdd σ x)
  by_cases hx:x∈σ
  ·have e:ddAdd σ x=σ:=by unfold ddAdd;rw[if_pos (aoI.mpr hx)]
   rw[e]at hle ⊢
   constructor
   ·intro z;omega
   ·intro z;exact absurd hx λ hm=>(List.nodup_append.mp z).2.2 x hm x List.mem_cons_self rfl
  ·have e:ddAdd σ x=σ++[x]:=by unfold ddAdd;rw[if_neg (λ z=>hx (aoI.mp z))]
   rw[e]
   have hn:(σ++[x]).Nodup:=by
    rw[List.nodup_append];refine⟨h,by simp,λ a ha b hb z=>?_⟩
    simp at hb
    subst hb
    subst z
    exact hx ha
   have ih:=amS xs (σ++[x]) hn
   rw[List.length_append,List.length_singleton]at ih;rw[show σ.length+(xs.length+1)=σ.length+1+xs.length by omega,ih,List.append_assoc]
   rfl
theorem yE (xs:List Tx):ddN xs=xs.length↔xs.Nodup:=by
 unfold ddN ddS
 have:=amS (xs.map Tx.s) [] List.nodup_nil
 rw[List.length_nil,Nat.zero_add,List.nil_append,List.length_map]at this;rw[this];unfold List.Nodup;rw[List.pairwise_map];exact⟨λ h=>h.imp λ hab z=>hab (by rw[z]),λ h=>h.imp λ hab z=>hab (Tx.s_inj z)⟩
theorem aix (xs:List Tx):ddN xs<=xs.length:=by
 unfold ddN
 have:=amn (xs.map Tx.s)
 rw[List.length_map]at this;exact this
end VS
namespace Ty
open PySem VS L2
end Ty
namespace VS
open PySem L2
theorem yF {ε ε' α β ν:Type}{f:α->ν->T ε' (Option β×ν)}{P:β->Prop}:∀ {xs:List α} {acc:List β} {v:ν},acc.length+xs.length<=1000000->(∀ y∈acc,P y)->(∀ x∈xs,∀ v,(f x v).Post λ p=>∀ y,p.1=some y->P y)->(T.lcM' xs acc v f:T ε _).Post λ p=>p.1.length<=acc.length+xs.length/\∀ y∈p.1,P y
 | [],acc,v,_,ha,_=>bM ⟨by simp,ha⟩
 | x::xs,acc,v,hs,ha,h=>by
  rw[List.length_cons]at hs;unfold T.lcM';obtain⟨⟨o,v'⟩,e,hp⟩:=h x List.mem_cons_self v;rw[e]
  have h':=λ x hx=>h x (List.mem_cons_of_mem _ hx)
  cases o with
  | none =>
   show(T.lcM' xs acc v' f:T ε _).Post _;refine rZ (yF (by omega) ha h') λ p hp=>⟨?_,hp.2⟩
   have:=hp.1
   rw[List.length_cons]
   omega
  | some y =>
   show(T.gd _ (T.lcM' xs (acc++[y]) v' f):T ε _).Post _;refine nO (szl _ (by omega)) (rZ (yF (by rw[List.length_append,List.length_singleton];omega) ?_ h') λ p hp=>⟨?_,hp.2⟩)
   ·intro z hz;rcases List.mem_append.mp hz with hz | hz
    ·exact ha z hz
    ·rw[List.mem_singleton]at hz
     subst hz
     exact hp _ rfl
   ·have:=hp.1
    rw[List.length_append,List.length_singleton]at this;rw[List.length_cons]
    omega
theorem akG {ε ε' α β ν:Type}{f:α->ν->T ε' (Option β×ν)}{P:β->Prop}{xs:List α}{v:ν}(hs:xs.length<=1000000)(h:∀ x∈xs,∀ v,(f x v).Post λ p=>∀ y,p.1=some y->P y):(T.lc xs v f:T ε _).Post λ p=>p.1.length<=xs.length/\∀ y∈p.1,P y:=by
 refine rZ (yF (acc:=[]) (by simpa using hs) (by simp) h) λ p hp=>⟨?_,hp.2⟩
 have:=hp.1
 simpa using this
end VS
namespace Ty
open PySem VS L2
end Ty
noncomputable section
noncomputable section
noncomputable section
namespace Ty
open PySem VS L2
theorem iY {κ α:Type}[DecidableEq κ]{d:Dt κ α}{k:κ}{v:α}(h:dget d k=some v):(k,v)∈d:=by
 unfold dget at h;obtain⟨p,hp,rfl⟩:=Option.map_eq_some_iff.mp h
 have h1:=List.mem_of_find?_eq_some hp
 have h2:p.1=k:=of_decide_eq_true (List.find?_some (p:=λ p:κ×α=>decide (p.1=k)) hp)
 rw[←h2];exact h1
theorem akH {α:Type}{xs:List α}{p:Int×α}(h:p∈enT 0 xs):∃ j:Nat,p.1=(j:Int)/\xs[j]?=some p.2:=by
 obtain⟨j,hj,e⟩:=List.getElem_of_mem h
 have e':=List.getElem?_eq_some_iff.mpr ⟨hj,e⟩
 rw[nU]at e';obtain⟨x,hx,rfl⟩:=Option.map_eq_some_iff.mp e';exact⟨j,by simp,hx⟩
abbrev Oa:=Int×Tx
theorem mO {α:Type}[DecidableEq α]:∀ {xs ys:List α},xs.Nodup->(∀ x∈xs,x∈ys)->xs.length<=ys.length
 | [],ys,_,_=>Nat.zero_le _
 | x::xs,ys,hn,hs=>by
  have hn':=List.nodup_cons.mp hn
  have hp:=List.perm_cons_erase (hs x List.mem_cons_self)
  have:=mO (xs:=xs) (ys:=ys.erase x) hn'.2 λ z hz=>by
   refine(List.mem_erase_of_ne λ q=>?_).mpr (hs z (List.mem_cons_of_mem _ hz))
   subst q
   exact hn'.1 hz
  rw[hp.length_eq,List.length_cons,List.length_cons]
  omega
section
variable {us:List Suit}{apz:List Bool}{plans:List (Option (List Oa))}{c:Nat}{u:Suit}
end
section
variable {us:List Suit}{apz:List Bool}{plans:List (Option (List Oa))}{c:Nat}{u:Suit}
end
section
variable {us:List Suit}{apz:List Bool}{plans:List (Option (List Oa))}{c:Nat}{u:Suit}
end
open PySem.W (dataLe)
section
variable {us:List Suit}{apz:List Bool}{c:Nat}{u:Suit}
end
end Ty
namespace Ty
open PySem VS L2
open PySem.W (dataLe)
end Ty
noncomputable section
namespace Ty
open PySem VS L2
open PySem.W (dataLe)
section
variable {us:List Suit}{apz:List Bool}{plans:List (Option (List Oa))}{c:Nat}{u:Suit}
end
end Ty
noncomputable section
noncomputable section
namespace Ty
open PySem VS L2
section
variable {us:List Suit}{apz:List Bool}{c:Nat}
end
end Ty
noncomputable section
namespace Ty
open PySem VS Lw L2
end Ty
namespace Ty
open PySem VS L2
def comeX:Tx:=tx "come"
def riseX:Tx:=tx "rise"
theorem o9 {d:Dt Tx Int}{n:Tx}(h:n∈d.map Prod.fst):∃ v,dget d n=some v/\(n,v)∈d:=by
 cases hg:dget d n with
 | some v=>exact⟨v,rfl,iY hg⟩
 | none =>
  exfalso
  have:(dget d n).isSome=true:=by
   rw[nQ,List.any_eq_true];obtain⟨p,hp,e⟩:=List.mem_map.mp h;exact⟨p,hp,decide_eq_true e⟩
  rw[hg]at this
  cases this
end Ty
noncomputable section
namespace Ty
open PySem VS Lw L2
end Ty
namespace Ty
open PySem VS L2
abbrev Di:=Tp4 Tx Tx Int Itx
def dieX:Tx:=tx "die"
theorem yG:comeX≠dieX:=by decide
def vN (ds:List Di):Dt Tx Int:=ds.filterMap λ e=>if e.a=comeX then some (e.b,e.c) else none
def dies (ds:List Di):Dt Tx (Int×Itx):=ds.filterMap λ e=>if e.a=dieX then some (e.b,(e.c,e.d)) else none
abbrev Des:=Dt Tx (Int×Tx)
def toI (p:Tx×(Int×Tx)):Tx×(Int×Itx):=(p.1,(p.2.1,Itx.t p.2.2))
def deadB (de:Des)(n:Tx)(d:Int):Bool:=match dget de n with
 | some v=>decide (v.1<=d)
 | none=>false
structure Fd (ns:List Tx)(ds:List Di)(arr:Dt Tx Int)(de:Des):Prop where
 ar:arr=vN ds
 nm:arr.map Prod.fst=ns
 kd:∀ p∈arr,0<=p.2/\p.2<=9999
 di:dies ds=de.map toI
 dk:∀ p∈de,p.1∈ns/\p.2.2∈ns
 ok:∀ (pre post:Des) (n:Tx) (v:Int×Tx),de=pre++(n,v)::post->v.2≠n/\v.2∉pre.map Prod.fst
theorem yH {de:Des}{n:Tx}(h:dget de n=none):n∉de.map Prod.fst:=λ z=>by
 have:(dget de n).isSome=true:=by
  rw[nQ,List.any_eq_true];obtain⟨p,hp,e⟩:=List.mem_map.mp z;exact⟨p,hp,decide_eq_true e⟩
 rw[h]at this
 cases this
theorem Fd.die {ns:List Tx}{ds:List Di}{arr:Dt Tx Int}{de:Des}(f:Fd ns ds arr de){x h:Tx}{d:Int}(hx:x∈ns)(hh:h∈ns)(hne:h≠x)(h2:dget de h=none):Fd ns (ds++[Tp4.mk (tx "die") x d (Itx.t h)]) arr (de++[(x,(d,h))]):=by
 refine⟨?_,f.nm,f.kd,?_,λ p hp=>?_,λ pre post n v e=>?_⟩
 ·rw[f.ar];unfold vN;rw[List.filterMap_append,List.filterMap_cons,if_neg (show ¬ (tx "die"=comeX) from λ z=>yG z.symm),List.filterMap_nil,List.append_nil]
 ·have:dies (ds++[Tp4.mk (tx "die") x d (Itx.t h)])=dies ds++[(x,(d,Itx.t h))]:=by
   unfold dies;rw[List.filterMap_append,List.filterMap_cons,if_pos (show tx "die"=dieX from rfl),List.filterMap_nil]
  rw[this,f.di,List.map_append]
  rfl
 ·rcases List.mem_append.mp hp with hp | hp
  ·exact f.dk p hp
  ·rw[List.mem_singleton]at hp
   subst hp
   exact⟨hx,hh⟩
 ·rcases List.eq_nil_or_concat post with rfl | ⟨q,l,rfl⟩
  ·have e:=List.append_inj' e rfl
   obtain⟨e1,e2⟩:=e
   cases e2
   subst e1
   exact⟨hne,yH h2⟩
  ·rw[List.concat_eq_append,←List.cons_append,←List.append_assoc]at e
   have e:=List.append_inj' e rfl
   exact f.ok pre q n v e.1
end Ty
namespace VS
open PySem PySem.Spec PyProof.Rows L2
section
variable {α β γ κ ν ω:Type}{A:LS}{t:T Empty β}{F:β->ω}{B:β->LS}{X:Empty->LS}
end
end VS
noncomputable section
namespace Ty
open PySem VS L2
theorem ace:¬ (dieX=comeX∨dieX=riseX):=by decide
def rkOf (e:Di):Option (Tp3 Tx Int Itx):=if e.a=comeX∨e.a=riseX then some ⟨e.b,e.c,e.d⟩ else none
def rkI (r:Tp3 Tx Int Int):Tp3 Tx Int Itx:=⟨r.a,r.b,Itx.i r.c⟩
structure F4 (ns:List Tx)(ds:List Di)(arr:Dt Tx Int)(rks:List (Tp3 Tx Int Int))(de:Des):Prop where
 fd:Fd ns ds arr de
 rk:ds.filterMap rkOf=rks.map rkI
 kc:∀ e∈ds,0<=e.c
 ad:∀ p∈arr,p.2<=5
theorem F4.len {ns:List Tx}{ds:List Di}{arr:Dt Tx Int}{rks:List (Tp3 Tx Int Int)}{de:Des}(f:F4 ns ds arr rks de):arr.length<=ds.length/\rks.length<=ds.length/\de.length<=ds.length/\ns.length=arr.length:=by
 refine⟨?_,?_,?_,?_⟩
 ·rw[f.fd.ar];exact List.length_filterMap_le _ _
 ·have:=congrArg List.length f.rk
  rw[List.length_map]at this;rw[←this];exact List.length_filterMap_le _ _
 ·have:=congrArg List.length f.fd.di
  rw[List.length_map]at this;rw[←this];exact List.length_filterMap_le _ _
 ·rw[←f.fd.nm,List.length_map]
theorem F4.come {ns:List Tx}{ds:List Di}{arr:Dt Tx Int}{rks:List (Tp3 Tx Int Int)}{de:Des}(f:F4 ns ds arr rks de){n:Tx}{d w:Int}(h:0<=d/\d<=5):F4 (ns++[n]) (ds++[Tp4.mk (tx "come") n d (Itx.i w)]) (arr++[(n,d)]) (rks++[Tp3.mk n d w]) de:=by
 refine⟨⟨?_,?_,λ p hp=>?_,?_,λ p hp=>?_,f.fd.ok⟩,?_,λ e he=>?_,λ p hp=>?_⟩
 ·rw[f.fd.ar];unfold vN;rw[List.filterMap_append,List.filterMap_cons,if_pos (show tx "come"=comeX from rfl),List.filterMap_nil]
 ·rw[List.map_append,f.fd.nm]
  rfl
 ·rcases List.mem_append.mp hp with hp | hp
  ·exact f.fd.kd p hp
  ·rw[List.mem_singleton]at hp
   subst hp
   exact⟨h.1,Int.le_trans h.2 (by decide)⟩
 ·have:=f.fd.di
  unfold dies at this ⊢;rw[List.filterMap_append,this,List.filterMap_cons,if_neg (show ¬ (tx "come"=dieX) from yG),List.filterMap_nil,List.append_nil]
 ·exact⟨List.mem_append_left _ (f.fd.dk p hp).1,List.mem_append_left _ (f.fd.dk p hp).2⟩
 ·rw[List.filterMap_append,f.rk,List.map_append]
  rfl
 ·rcases List.mem_append.mp he with he | he
  ·exact f.kc e he
  ·rw[List.mem_singleton]at he
   subst he
   exact h.1
 ·rcases List.mem_append.mp hp with hp | hp
  ·exact f.ad p hp
  ·rw[List.mem_singleton]at hp
   subst hp
   exact h.2
theorem F4.die {ns:List Tx}{ds:List Di}{arr:Dt Tx Int}{rks:List (Tp3 Tx Int Int)}{de:Des}(f:F4 ns ds arr rks de){x h:Tx}{d:Int}(h0:0<=d)(hx:x∈ns)(hh:h∈ns)(hne:h≠x)(h2:dget de h=none):F4 ns (ds++[Tp4.mk (tx "die") x d (Itx.t h)]) arr rks (de++[(x,(d,h))]):=by
 refine⟨f.fd.die hx hh hne h2,?_,λ e he=>?_,f.ad⟩
 ·rw[List.filterMap_append,f.rk]
  have:[Tp4.mk (tx "die") x d (Itx.t h)].filterMap rkOf=[]:=by
   rw[List.filterMap_cons,show rkOf (Tp4.mk (tx "die") x d (Itx.t h))=none from if_neg ace]
   rfl
  rw[this,List.append_nil]
 ·rcases List.mem_append.mp he with he | he
  ·exact f.kc e he
  ·rw[List.mem_singleton]at he
   subst he
   exact h0
theorem anu:riseX≠comeX/\riseX≠dieX:=by decide
theorem F4.rise {ns:List Tx}{ds:List Di}{arr:Dt Tx Int}{rks:List (Tp3 Tx Int Int)}{de:Des}(f:F4 ns ds arr rks de){n:Tx}{d w:Int}(h0:0<=d):F4 ns (ds++[Tp4.mk (tx "rise") n d (Itx.i w)]) arr (rks++[Tp3.mk n d w]) de:=by
 refine⟨⟨?_,f.fd.nm,f.fd.kd,?_,f.fd.dk,f.fd.ok⟩,?_,λ e he=>?_,f.ad⟩
 ·rw[f.fd.ar];unfold vN;rw[List.filterMap_append,List.filterMap_cons,if_neg (show ¬ (tx "rise"=comeX) from anu.1),List.filterMap_nil,List.append_nil]
 ·have:=f.fd.di
  unfold dies at this ⊢;rw[List.filterMap_append,this,List.filterMap_cons,if_neg (show ¬ (tx "rise"=dieX) from anu.2),List.filterMap_nil,List.append_nil]
 ·rw[List.filterMap_append,f.rk,List.map_append]
  have:[Tp4.mk (tx "rise") n d (Itx.i w)].filterMap rkOf=[rkI ⟨n,d,w⟩]:=by
   rw[List.filterMap_cons,show rkOf (Tp4.mk (tx "rise") n d (Itx.i w))=some ⟨n,d,Itx.i w⟩ from if_pos (.inr rfl)]
   rfl
  rw[this]
  rfl
 ·rcases List.mem_append.mp he with he | he
  ·exact f.kc e he
  ·rw[List.mem_singleton]at he
   subst he
   exact h0
end Ty
namespace VS
open PySem PySem.Spec PyProof.Rows L2
section
variable {ε ε' α β γ δ κ ω:Type}{A:LS}{t:T ε β}{F:β->ω}{B:β->LS}{X:ε->LS}
class KDt (κ:Type)[Enc κ][EncK κ]:Prop where
 eq:∀ x:κ,(Enc.enc x:D)=.tuple ((EncK.ks x).map kD)
instance {κ μ:Type}[Enc κ][Enc1 κ][KD1 κ][Enc μ][Enc1 μ][KD1 μ]:KDt (κ×μ):=⟨λ p=>by
 show PyData.tuple [Enc.enc p.1,Enc.enc p.2]=PyData.tuple [kD (Enc1.k1 p.1),kD (Enc1.k1 p.2)]
 rw[amP,amP]⟩
end
class Sc (α:Type)[Enc α][DecidableEq α] where
 dep:Nat
 lay:∀ x:α,(Enc.enc x:D).canLay0=true
 dp:∀ x:α,(Enc.enc x:D).depth<=dep
 eqv:∀ x y:α,(Enc.enc x:D).eqv (Enc.enc y)=decide (x=y)
instance (priority:=low){α:Type}[Enc α][DecidableEq α][i:Sh α]:Sc α:=⟨i.dep,i.lay,i.dp,i.eqv⟩
instance {α:Type}[Enc α][DecidableEq α][i:Sh α]:Sc (Option α):=⟨i.dep,λ x=>by
 cases x with
 | none=>show PyData.canLay0 .none=true;unfold PyData.canLay0;rfl
 | some a=>exact i.lay a,λ x=>by
 cases x with
 | none=>show PyData.depth .none<=_;unfold PyData.depth;exact Nat.zero_le _
 | some a=>exact i.dp a,ako⟩
instance {α β γ δ:Type}[Enc α][DecidableEq α][i:Sc α][Enc β][DecidableEq β][j:Sc β][Enc γ][DecidableEq γ][k:Sc γ][Enc δ][DecidableEq δ][l:Sc δ]:Sh (Tp4 α β γ δ) where
 dep:=max i.dep (max j.dep (max k.dep l.dep))+1
 nn:=λ _ h=>by cases h
 lay:=λ p=>by
  show PyData.canLay0 (.tuple [Enc.enc p.a,Enc.enc p.b,Enc.enc p.c,Enc.enc p.d])=true
  simp[PyData.canLay0,PyData.canLayAll0,Sc.lay p.a,Sc.lay p.b,Sc.lay p.c,Sc.lay p.d]
 dp:=λ p=>by
  show PyData.depth (.tuple [Enc.enc p.a,Enc.enc p.b,Enc.enc p.c,Enc.enc p.d])<=_
  have h1:=i.dp p.a
  have h2:=j.dp p.b
  have h3:=k.dp p.c
  have h4:=l.dp p.d
  simp only[PyData.depth,PyData.depthAll]
  omega
 eqv:=λ p q=>by
  show PyData.eqv (.tuple [Enc.enc p.a,Enc.enc p.b,Enc.enc p.c,Enc.enc p.d]) (.tuple [Enc.enc q.a,Enc.enc q.b,Enc.enc q.c,Enc.enc q.d])=_
  simp only[PyData.eqv,PyData.eqvAll,Sc.eqv,Bool.and_true]
  have e:decide (p=q)=decide (p.a=q.a/\p.b=q.b/\p.c=q.c/\p.d=q.d):=decide_eq_decide.mpr akn
  rw[e]
  by_cases h1:p.a=q.a<;>by_cases h2:p.b=q.b<;>by_cases h3:p.c=q.c<;>by_cases h4:p.d=q.d<;>simp[h1,h2,h3,h4]
end VS
noncomputable section
namespace Ty
open PySem VS Lw L2
def pq (name:Tx)(apA:(Dt Tx Int))(apB:RkL)(apC:(Dt Tx (Int×Tx))):T Empty ((Option (Int×Tx))) :=
 .ok (dget apC name)
end Ty
namespace Ty
open PySem VS L2
abbrev Stp:=Tp4 Int Tx (Option Tx) Tx
def Gst (ns:List Tx)(st:List Stp):Prop:=∃ l,st.getLast?=some l/\l.d∈ns
theorem Gst.snoc {ns:List Tx}(st:List Stp){l:Stp}(h:l.d∈ns):Gst ns (st++[l]):=⟨l,by simp,h⟩
end Ty
namespace Ty
open PySem VS L2
def PG (ns:List Tx)(n:Nat)(st:List Stp):Prop:=Gst ns st/\st.length<=1+51 * n
end Ty
noncomputable section
namespace Ty
open PySem VS L2
def Fit (evs:List Stp)(de:Des)(x y:Stp):Prop:=x.a<=y.a/\y.c=some x.d/\((y.b=tx "given"/\y∈evs)∨(y.b=tx "won"/\Tp4.mk y.a (tx "won") none y.d∈evs)∨(y.b=tx "left"/\∃ v,dget de x.d=some v/\v.1<=y.a/\y.d=v.2/\(y.a=v.1∨y.a=x.a)))
end Ty
noncomputable section
noncomputable section
namespace Ty
open PySem VS L2
open PySem.W (dataLe)
def hF (de:Des)(d:Int):Nat->Tx->Tx
 | 0,n=>n
 | k+1,n=>match dget de n with
  | some v=>if v.1<=d then hF de d k v.2 else n
  | none=>n
def hr (de:Des)(d:Int)(n:Tx):Tx:=hF de d 50 n
end Ty
namespace Ty
open PySem VS L2
open PySem.W (dataLe)
end Ty
namespace Ty
open PySem VS L2
theorem aaZ {x:Tx}(c:Int):∀ {ns:List Tx},ns.Nodup->x∈ns->(ns.map λ n=>if x=n then c else 0).sum=c
 | [],_,h=>by cases h
 | n::ns,hn,h=>by
  rw[List.nodup_cons]at hn;rw[List.map_cons,List.sum_cons]
  by_cases z:x=n
  ·have h0:∀ {ms:List Tx},x∉ms->(ms.map λ n=>if x=n then c else 0).sum=0:=by
    intro ms
    induction ms with
    | nil=>intro _;rfl
    | cons m ms ih =>
     intro hm;rw[List.mem_cons,not_or]at hm;rw[List.map_cons,List.sum_cons,if_neg hm.1,ih hm.2]
     rfl
   rw[if_pos z,h0 (by rw[z];exact hn.1)]
   omega
  ·rw[if_neg z,aaZ c hn.2 ((List.mem_cons.mp h).resolve_left z)]
   omega
end Ty
namespace VS
open PySem PySem.Spec PyProof.Rows L2
class ScT (α:Type)[Enc α]:Prop where
 sc:∀ x:α,scal (Enc.enc x)=true
instance:ScT Int:=⟨λ _=>rfl⟩
instance:ScT Tx:=⟨λ _=>rfl⟩
instance:ScT Bool:=⟨λ _=>rfl⟩
class ItT (α:Type)[Enc α]:Prop where
 it:∀ x:α,itemOk (Enc.enc x)=true
instance (priority:=low)[Enc α][i:ScT α]:ItT α:=⟨λ x=>by
 unfold itemOk
 rw[i.sc]
 rfl⟩
instance {κ μ:Type}[Enc κ][Enc1 κ][KD1 κ][Enc μ][Enc1 μ][KD1 μ]:ItT (κ×μ):=⟨λ p=>by
 show(scal (Enc.enc p)||(keysD (Enc.enc p)).isSome)=true
 rw[KDs.eq p]
 rfl⟩
section
variable {ε ε' α β γ δ κ ω:Type}{A:LS}{t:T ε β}{F:β->ω}{B:β->LS}{X:ε->LS}
end
end VS
noncomputable section
namespace VS
open PySem PySem.Spec PyProof.Rows L2
def T.tryE {ε α:Type}(ks:List Nat)(t:T Unit α)(h:Nat->T Empty α):T ε α:=match t with
 | .ok a=>.ok a
 | .er k _=>if k∈ks then T.up (h k) else .no
 | .no=>.no
section
variable {ε ε' α β γ δ κ ω:Type}{A:LS}{t:T ε β}{F:β->ω}{B:β->LS}{X:ε->LS}
theorem aoJ {K:Kont ω}{i:Nat}{ks:List Nat}{gb:LS->R O}{gs:Nat->LS->R O}{tb:T Unit γ}{ts:Nat->T Empty γ}{B1:γ->LS}{XA:LS}{t':γ->T ε β}
  (h1:SS A gb KN tb (λ _=>()) B1 (λ _=>XA)) (hs:∀ k,SS (XA.set i none) (gs k) KN (ts k) (λ _=>()) B1 XV) (hi:i < XA.length) (hB:∀ c,(B1 c)[i]?=some none) (h2:∀ c,SK (B1 c) K.nx (t' c) F B X) :
  SS A (gTry i ks gb gs) K ((T.tryE ks tb ts).bind t') F B X:=λ L hL=>by
 show SimR (fin K (gTry i ks gb gs L)) ((T.tryE ks tb ts).bind t') F B X
 have h:=h1 L hL
 unfold gTry
 cases tb with
 | no=>trivial
 | ok b =>
  obtain⟨L1,h3,h4⟩:=h
  try dsimp only at h3
  cases e:gb L with
  | stuck=>rw[e]at h3;cases h3
  | err c' L2=>rw[e]at h3;cases h3
  | ok o L2=>rw[e]at h3;cases o<;>cases h3;exact h2 b _ h4
 | er c u =>
  obtain⟨L1,h3,h4⟩:=h
  try dsimp only at h3
  cases e:gb L with
  | ok o L2=>rw[e]at h3;cases o<;>cases h3
  | stuck=>rw[e]at h3;cases h3
  | err c' L2 =>
   rw[e]at h3
   cases h3
   show SimR (fin K (if c∈ks/\i < L1.length then(match gs c (L1.set i none) with
    | .ok o L2=>.ok o (L2.set i none)
    | r=>.stuck) else .stuck)) ((if c∈ks then T.up (ts c) else .no).bind t') F B X
   by_cases hk:c∈ks
   ·rw[if_pos hk,if_pos ⟨hk,by rw[h4.1];exact hi⟩]
    have hq:=hs c (L1.set i none) (h4.set i none)
    cases hts:ts c with
    | no=>trivial
    | er c2 e2=>exact e2.elim
    | ok b =>
     rw[hts]at hq;obtain⟨L2,h5,h6⟩:=hq
     try dsimp only at h5
     cases e2:gs c (L1.set i none) with
     | stuck=>rw[e2]at h5;cases h5
     | err c' L2=>rw[e2]at h5;cases h5
     | ok o L3 =>
      rw[e2]at h5
      cases o<;>cases h5
      refine h2 b _ ⟨by rw[List.length_set];exact h6.1,λ j s hj=>?_⟩
      have hji:i≠j:=λ z=>by
       subst z
       rw[hB b]at hj
       cases hj
      rw[List.getElem?_set_ne hji];exact h6.2 j s hj
   ·rw[if_neg hk]
    trivial
end
end VS
noncomputable section
namespace Ty
open PySem VS Lw L2
def lg (apF:(List Suit))(case_:Int):T Unit (Suit) :=
 if((decide (case_ < (0:Int)))||(decide (((List.length apF:Nat):Int)<=case_)))=true then(.er 7 ()) else((T.ofO (atI apF case_)).bind λ x1 =>
 .ok x1)
def mX (apF:(List Suit))(case_:Int)(name:Tx):T Unit (Unit) :=
 (lg apF case_).bind λ r1 =>
 (T.ofO (catT r1.a r1.b)).bind λ x2 =>
 (T.lcp x2 (λ(i3:Oath)=>true) (λ i3=>i3.1)).bind λ l4 =>
 if(!(memT name l4))=true then(.er 8 ()) else(.ok ())
end Ty
namespace Ty
open PySem VS L2
section
variable {α β γ ν:Type}
end
variable {us:List Suit}
theorem yI {c:Nat}{u:Suit}(hu:us[c]?=some u):lg us c=.ok u:=by
 have hc:=(List.getElem?_eq_some_iff.mp hu).1
 unfold lg;rw[if_neg (by simp only[Bool.or_eq_true,decide_eq_true_eq];omega),lN,hu]
 rfl
theorem aai {c:Int}(h:c < 0∨(us.length:Int)<=c):lg us c=.er 7 ():=by
 unfold lg;rw[if_pos (by simpa only[Bool.or_eq_true,decide_eq_true_eq] using h)]
end Ty
namespace VS
open PySem PySem.Spec PyProof.Rows L2
section
variable {ε ε' α β γ δ κ ω:Type}{A:LS}{t:T ε β}{F:β->ω}{B:β->LS}{X:ε->LS}
end
def nonD:D->Bool
 | .none=>true
 | _=>false
theorem amU (d:D):dIs (Enc.enc d) (Enc.enc ())=some (Enc.enc (nonD d)):=by cases d<;>rfl
section
variable {ε α β γ κ ν ω:Type}{A:LS}{t:T ε β}{F:β->ω}{B:β->LS}{X:ε->LS}
end
end VS
noncomputable section
namespace Ty
open PySem VS Lw L2
def aR (number:Int)(low:Int)(high:Int):T Unit (Unit) :=
 if((decide (number < low))||(decide (high < number)))=true then(.er 3 ()) else(.ok ())
def iZ (name:Tx)(day:Int)(weight:Int)(apA:(Dt Tx Int))(apB:RkL)(apC:(Dt Tx (Int×Tx))):T Unit ((Dt Tx Int)×RkL) :=
 (T.up (o8 name)).bind λ r1 =>
 if(!r1)=true then(.er 2 ()) else((aR day ((0:Int)) ((9999:Int))).bind λ _ =>
 (aR weight ((1:Int)) ((1000:Int))).bind λ _ =>
 if((dget apA name).isSome)=true then(.er 5 ()) else(if(decide ((40:Int)<=((List.length apA:Nat):Int)))=true then(.er 12 ()) else(T.gd (apA.length < sizeLine) <|
 T.gd (apB.length < sizeLine) <|
 .ok ((dput apA name day),(apB++[(Tp3.mk name day weight)])))))
def bV (name:Tx)(apA:(Dt Tx Int))(apB:RkL)(apC:(Dt Tx (Int×Tx))):T Unit (Unit) :=
 if(!(dget apA name).isSome)=true then(.er 4 ()) else(.ok ())
def aW (name:Tx)(day:Int)(apA:(Dt Tx Int))(apB:RkL)(apC:(Dt Tx (Int×Tx))):T Unit (Unit) :=
 (T.ofO (dget apA name)).bind λ v1 =>
 if(decide (day < v1))=true then(.er 9 ()) else(.ok ())
def fL (name:Tx)(day:Int)(apA:(Dt Tx Int))(apB:RkL)(apC:(Dt Tx (Int×Tx))):T Unit (Unit) :=
 if((dget apC name).isSome)=true then((T.ofO (dget apC name)).bind λ v1 =>
 if(decide (v1.1<=day))=true then(.er 10 ()) else(.ok ())) else(.ok ())
def jQ (name:Tx)(day:Int)(weight:Int)(apA:(Dt Tx Int))(apB:RkL)(apC:(Dt Tx (Int×Tx))):T Unit (RkL) :=
 (aR day ((0:Int)) ((9999:Int))).bind λ _ =>
 (aR weight ((1:Int)) ((1000:Int))).bind λ _ =>
 (bV name apA apB apC).bind λ _ =>
 (aW name day apA apB apC).bind λ _ =>
 (fL name day apA apB apC).bind λ _ =>
 T.gd (apB.length < sizeLine) <|
 .ok (apB++[(Tp3.mk name day weight)])
def kY (name:Tx)(day:Int)(heir:Tx)(apA:(Dt Tx Int))(apB:RkL)(apC:(Dt Tx (Int×Tx))):T Unit ((Dt Tx (Int×Tx))) :=
 (aR day ((0:Int)) ((9999:Int))).bind λ _ =>
 (bV name apA apB apC).bind λ _ =>
 (bV heir apA apB apC).bind λ _ =>
 (aW name day apA apB apC).bind λ _ =>
 (aW heir day apA apB apC).bind λ _ =>
 if((dget apC name).isSome)=true then(.er 10 ()) else(if((decide (heir=name))||((dget apC heir).isSome))=true then(.er 11 ()) else(T.gd (apC.length < sizeLine) <|
 .ok (dput apC name (day,heir))))
def cY (name:Tx)(day:Int)(apA:(Dt Tx Int))(apB:RkL)(apC:(Dt Tx (Int×Tx))):T Unit (Int) :=
 (aR day ((0:Int)) ((9999:Int))).bind λ _ =>
 (bV name apA apB apC).bind λ _ =>
 (aW name day apA apB apC).bind λ _ =>
 (T.up (((T.forM apB (((0:Int),(0:Int)):Int×Int) (λ(i6:(Tp3 Tx Int Int)) (last9,found10)=>((if((decide (i6.a=name))&&((decide (last9<=i6.b))&&(decide (i6.b<=day))))=true then(.ok (i6.b,i6.c)) else(.ok (last9,found10))):T Empty (Int×Int)))).bind λ(last9,found10) =>
 .ok (last9,found10)):T Empty (Int×Int))).bind λ(last4,found5) =>
 .ok found5
end Ty
namespace Ty
open PySem VS L2
structure F5 (ds:List Di)(arr:Dt Tx Int)(rks:List (Tp3 Tx Int Int))(de:Des):Prop where
 fd:Fd (arr.map Prod.fst) ds arr de
 rk:ds.filterMap rkOf=rks.map rkI
 kc:∀ e∈ds,0<=e.c
section
variable {ds:List Di}{arr:Dt Tx Int}{rks:List (Tp3 Tx Int Int)}{de:Des}
theorem F5.len (f:F5 ds arr rks de):arr.length<=ds.length/\rks.length<=ds.length/\de.length<=ds.length:=by
 refine⟨?_,?_,?_⟩
 ·rw[f.fd.ar];exact List.length_filterMap_le _ _
 ·have:=congrArg List.length f.rk
  rw[List.length_map]at this;rw[←this];exact List.length_filterMap_le _ _
 ·have:=congrArg List.length f.fd.di
  rw[List.length_map]at this;rw[←this];exact List.length_filterMap_le _ _
theorem F5.come (f:F5 ds arr rks de){n:Tx}{d w:Int}(h:0<=d/\d<=9999):F5 (ds++[Tp4.mk (tx "come") n d (Itx.i w)]) (arr++[(n,d)]) (rks++[Tp3.mk n d w]) de:=by
 refine⟨⟨?_,rfl,λ p hp=>?_,?_,λ p hp=>?_,f.fd.ok⟩,?_,λ e he=>?_⟩
 ·rw[f.fd.ar];unfold vN;rw[List.filterMap_append,List.filterMap_cons,if_pos (show tx "come"=comeX from rfl),List.filterMap_nil]
 ·rcases List.mem_append.mp hp with hp | hp
  ·exact f.fd.kd p hp
  ·rw[List.mem_singleton]at hp
   subst hp
   exact h
 ·have:=f.fd.di
  unfold dies at this ⊢;rw[List.filterMap_append,this,List.filterMap_cons,if_neg (show ¬ (tx "come"=dieX) from yG),List.filterMap_nil,List.append_nil]
 ·rw[List.map_append];exact⟨List.mem_append_left _ (f.fd.dk p hp).1,List.mem_append_left _ (f.fd.dk p hp).2⟩
 ·rw[List.filterMap_append,f.rk,List.map_append]
  rfl
 ·rcases List.mem_append.mp he with he | he
  ·exact f.kc e he
  ·rw[List.mem_singleton]at he
   subst he
   exact h.1
theorem F5.die (f:F5 ds arr rks de){x h:Tx}{d:Int}(h0:0<=d)(hx:x∈arr.map Prod.fst)(hh:h∈arr.map Prod.fst)(hne:h≠x)(h2:dget de h=none):F5 (ds++[Tp4.mk (tx "die") x d (Itx.t h)]) arr rks (de++[(x,(d,h))]):=by
 refine⟨f.fd.die hx hh hne h2,?_,λ e he=>?_⟩
 ·rw[List.filterMap_append,f.rk]
  have:[Tp4.mk (tx "die") x d (Itx.t h)].filterMap rkOf=[]:=by
   rw[List.filterMap_cons,show rkOf (Tp4.mk (tx "die") x d (Itx.t h))=none from if_neg ace]
   rfl
  rw[this,List.append_nil]
 ·rcases List.mem_append.mp he with he | he
  ·exact f.kc e he
  ·rw[List.mem_singleton]at he
   subst he
   exact h0
theorem F5.rise (f:F5 ds arr rks de){n:Tx}{d w:Int}(h0:0<=d):F5 (ds++[Tp4.mk (tx "rise") n d (Itx.i w)]) arr (rks++[Tp3.mk n d w]) de:=by
 refine⟨⟨?_,f.fd.nm,f.fd.kd,?_,f.fd.dk,f.fd.ok⟩,?_,λ e he=>?_⟩
 ·rw[f.fd.ar];unfold vN;rw[List.filterMap_append,List.filterMap_cons,if_neg (show ¬ (tx "rise"=comeX) from anu.1),List.filterMap_nil,List.append_nil]
 ·have:=f.fd.di
  unfold dies at this ⊢;rw[List.filterMap_append,this,List.filterMap_cons,if_neg (show ¬ (tx "rise"=dieX) from anu.2),List.filterMap_nil,List.append_nil]
 ·rw[List.filterMap_append,f.rk,List.map_append]
  have:[Tp4.mk (tx "rise") n d (Itx.i w)].filterMap rkOf=[rkI ⟨n,d,w⟩]:=by
   rw[List.filterMap_cons,show rkOf (Tp4.mk (tx "rise") n d (Itx.i w))=some ⟨n,d,Itx.i w⟩ from if_pos (.inr rfl)]
   rfl
  rw[this]
  rfl
 ·rcases List.mem_append.mp he with he | he
  ·exact f.kc e he
  ·rw[List.mem_singleton]at he
   subst he
   exact h0
end
theorem pP {x:Tx}(h:x.cs.length<=100000):o8 x=.ok (Lw.isN (x.cs.map (·.val))):=if_pos h
theorem apj (c:Fin 1114112):ltT ⟨[c]⟩ (tx "a")=decide (c.val < 97):=by
 unfold ltT;rw[Tx.s_list,Tx.s_list]
 have:(tx "a").cs.map (·.val)=[97]:=by decide
 rw[this,decide_eq_decide];show [c.val] < [97]↔_;rw[List.cons_lt_cons_iff]
 simp
theorem apk (c:Fin 1114112):ltT (tx "z") ⟨[c]⟩=decide (122 < c.val):=by
 unfold ltT;rw[Tx.s_list,Tx.s_list]
 have:(tx "z").cs.map (·.val)=[122]:=by decide
 rw[this,decide_eq_decide];show [122] < [c.val]↔_;rw[List.cons_lt_cons_iff]
 simp
def kd:Nat->Tx
 | 2=>tx "NoName"
 | 3=>tx "NoMeasure"
 | 4=>tx "Unknown"
 | 5=>tx "Taken"
 | 9=>tx "NotYet"
 | 10=>tx "Dead"
 | 11=>tx "NoHeir"
 | _=>tx "TooMany"
section
variable {ds:List Di}{arr:Dt Tx Int}{rks:List (Tp3 Tx Int Int)}{de:Des}
theorem abb (a lo hi:Int):aR a lo hi=if a < lo∨hi < a then .er 3 () else .ok ():=by
 unfold aR
 simp only[Bool.or_eq_true,decide_eq_true_eq]
theorem yJ (n:Tx):bV n arr rks de=if(dget arr n).isNone=true then .er 4 () else .ok ():=by
 unfold bV
 cases dget arr n<;>rfl
theorem yK {n:Tx}{v:Int}(h:dget arr n=some v)(d:Int):aW n d arr rks de=if d < v then .er 9 () else .ok ():=by
 unfold aW;rw[h,aa]
 simp only[decide_eq_true_eq]
theorem acf (n:Tx)(d:Int):fL n d arr rks de=if deadB de n d=true then .er 10 () else .ok ():=by
 unfold fL deadB
 cases hd:dget de n with
 | none=>rfl
 | some v=>rfl
end
section
variable {ds:List Di}{arr:Dt Tx Int}{rks:List (Tp3 Tx Int Int)}{de:Des}
structure F6 (ds:List Di)(arr:Dt Tx Int)(rks:List (Tp3 Tx Int Int))(de:Des):Prop where
 f:F5 ds arr rks de
 nd:(de.map Prod.fst).Nodup
 al:arr.length<=40
theorem F6.len (f:F6 ds arr rks de):de.length<=40:=by
 have:=mO f.nd λ x hx=>by
  obtain⟨p,hp,rfl⟩:=List.mem_map.mp hx;exact(f.f.fd.dk p hp).1
 rw[List.length_map,List.length_map]at this;exact Nat.le_trans this f.al
theorem vO {κ α:Type}[DecidableEq κ]{d:Dt κ α}{k:κ}(h:dget d k=none)(v:α):dput d k v=d++[(k,v)]:=by
 unfold dput;rw[if_neg];intro z
 have:(dget d k).isSome=true:=by rw[nQ];exact z
 rw[h]at this
 cases this
end
end Ty
namespace VS
open PySem PySem.Spec PyProof.Rows L2
inductive Un where
 | i (n:Int)
 | t (x:Tx)
 | l (xs:List Tx)
 | o
deriving DecidableEq
instance:Enc Un:=⟨λ x=>match x with
 | .i n=>Enc.enc n
 | .t x=>Enc.enc x
 | .l xs=>Enc.enc xs
 | .o=>.none⟩
def Un.toI:Un->Option Int
 | .i n=>some n
 | _=>none
def Un.toT:Un->Option Tx
 | .t x=>some x
 | _=>none
def Un.toL:Un->Option (List Tx)
 | .l x=>some x
 | _=>none
structure DeedT where
 ps:List Un
deriving DecidableEq
abbrev LDd:=List DeedT
instance:Enc DeedT:=⟨λ x=>.tuple (x.ps.map Enc.enc)⟩
structure FolkT where
 arr:Dt Tx Int
 rks:List (Tp3 Tx Int Int)
 des:Dt Tx (Int×Tx)
abbrev EvT:=Tp4 Int Tx (Option Tx) Tx
abbrev MoT:=Tp4 Int Tx Tx Int
abbrev SuT:=Tp4 (List (Tx×Int)) (List (Tx×Int)) Int (Option (Int×Tx))
structure MootT where
 aps:FolkT
 apt:List (Tx×Int)
 apu:List (Tp3 Int EvT (Option Int))
 apv:List (MoT×Option Int)
 apw:List SuT
 apx:List Int
 apy:Dt Tx Int
 apz:List DeedT
@[reducible] def akI:FolkT:=⟨[],[],[]⟩
@[reducible] def pA:MootT:=⟨akI,[],[],[],[],[],[],[]⟩
section
variable {ε ε' α β γ δ κ ω:Type}{A:LS}{t:T ε β}{F:β->ω}{B:β->LS}{X:ε->LS}
theorem Mt.take {A L:LS}(h:Mt A L)(n:Nat):Mt (A.take n) (L.take n):=by
 refine⟨by rw[List.length_take,List.length_take,h.1],λ i s e=>?_⟩;rw[List.getElem?_take]at e ⊢
 split at e
 ·rename_i hi
  rw[if_pos hi];exact h.2 i s e
 ·cases e
end
end VS
namespace Ty
open PySem PySem.Spec PyProof.Rows VS Lw L2
def oG (apA:Dt Tx Int)(apB:List (Tp3 Tx Int Int))(apC:Dt Tx (Int×Tx)):T Empty FolkT:=.ok ⟨apA,apB,apC⟩
end Ty
noncomputable section
namespace Ty
open PySem VS L2
section
variable (ns:List Tx)(ds:List Int)
abbrev Nx (i:Nat):Tx:=ns.getD i (tx "")
abbrev Dx1 (i:Nat):Int:=ds.getD i 0
def dL6 (k:Nat):Des:=(List.range k).map λ i=>(Nx ns i,(Dx1 ds i,Nx ns (i+1)))
end
section
variable {ns:List Tx}{ds:List Int}
def st0 (x:Tx):List Stp:=[Tp4.mk 2 (tx "brought") none x]
end
section
variable {pe:FolkT}{br:List Oath}{pa:List (Tp3 Int EvU (Option Int))}{mo:List (MoU×(Option Int))}{tr:List Suit}{td:List Int}{pn:Dt Tx Int}{to:List DeedT}
end
end Ty
namespace Ty
open PySem VS L2
abbrev ar6 (ns:List Tx):Dt Tx Int:=ns.map λ n=>(n,(1:Int))
section
variable {ns:List Tx}{ds:List Int}
end
structure M2 (ns:List Tx)(ds:List Int)(br:List Oath)(mo:List (MoT×Option Int))(k:Nat)(m:MootT):Prop where
 arr:m.aps.arr=ar6 ns
 des:m.aps.des=dL6 ns ds k
 f:∃ dl,F5 dl m.aps.arr m.aps.rks m.aps.des
 br:m.apt=br
 pa:m.apu=[]
 mo:m.apv=mo
 tr:m.apw=[]
 apz:m.apz.length=ns.length+3+k
section
variable {pe:FolkT}{br:List Oath}{mo:List (MoU×(Option Int))}{td:List Int}{pn:Dt Tx Int}{to:List DeedT}
end
end Ty
namespace VS
open PySem PySem.Spec PyProof.Rows L2
structure WorldT where
 apE:List DeedT
 apF:List SuT
 apw:List DeedT
theorem aoK (d:DeedT)(k:Int):dIx (Enc.enc d) (Enc.enc k)=(atI d.ps k).map Enc.enc:=aa4 _ _ _
theorem ac0 {o p:Option S}(h:∀ s,o=some s->p=some s){s:S}(e:viewS o=some s):viewS p=some s:=by
 cases o with
 | none=>cases e
 | some x=>rw[h x rfl];exact e
theorem Mt.view {A L:LS}(h:Mt A L):Mt (viewL A) (viewL L):=by
 refine⟨by unfold viewL;rw[List.length_map,List.length_map];exact h.1,λ i s e=>?_⟩;unfold viewL at e ⊢;rw[List.getElem?_map]at e ⊢;obtain⟨o,h1,h2⟩:=Option.map_eq_some_iff.mp e
 have hlt:i < L.length:=by rw[h.1];exact(List.getElem?_eq_some_iff.mp h1).1
 rw[List.getElem?_eq_getElem hlt];refine congrArg some (ac0 (o:=o) (λ x hx=>?_) h2)
 subst hx
 have:=h.2 i x h1
 rw[List.getElem?_eq_getElem hlt]at this;exact Option.some.inj this
def T.nv {ε ε' α:Type}(t:T ε' α):T ε α:=match t with
 | .ok a=>.ok a
 | _=>.no
theorem T.nv_ok {ε ε' α:Type}(a:α):(T.nv (T.ok a:T ε' α):T ε α)=.ok a:=rfl
section
variable {ε ε' α β γ δ κ ω:Type}{A A2:LS}{t:T ε β}{F:β->ω}{B:β->LS}{X:ε->LS}
end
end VS
namespace Ty
open PySem PySem.Spec PyProof.Rows VS Lw L2
def wZ (d:DeedT):T Empty DeedT:=T.gd (d.ps.length<=sizeLine) (.ok d)
structure Kt where
 zs:List String
def Kt.ts (k:Kt):List Tx:=k.zs.map tx
instance:Enc Kt:=⟨λ k=>.tuple (k.zs.map λ z=>.str (Str.ofString z))⟩
theorem aoL (k:Kt):(Enc.enc k:D)=.tuple (k.ts.map Enc.enc):=by
 show PyData.tuple (k.zs.map λ z=>PyData.str (Str.ofString z))=PyData.tuple ((k.zs.map tx).map Enc.enc);rw[List.map_map]
 congr 1
 exact List.map_congr_left λ z _=>by
  show _=PyData.str (tx z).s;rw[amF]
theorem aoM (x:Tx)(k:Kt):dInB (Enc.enc x) (Enc.enc k)=some (memT x k.ts):=by
 rw[aoL]
 have ho:flatD (Enc.enc x:D)=true/\(k.ts.map (Enc.enc:Tx->D)).all flatD=true:=⟨rfl,by
  rw[List.all_eq_true];intro d hd;obtain⟨y,_,rfl⟩:=List.mem_map.mp hd
  rfl⟩
 show(if flatD (Enc.enc x:D)=true/\(k.ts.map (Enc.enc:Tx->D)).all flatD=true then some ((k.ts.map (Enc.enc:Tx->D)).any λ z=>PyData.eqv z (Enc.enc x)) else none)=_;rw[if_pos ho,aa3]
 rfl
theorem ahT (x:Tx)(k:Kt):dNotIn (Enc.enc x) (Enc.enc k)=some (.bool (!memT x k.ts)):=by
 unfold dNotIn;rw[aoM]
 rfl
section
variable {κ ω' β ε:Type}{A:LS}{B:β->LS}{X:ε->LS}{F:β->ω'}{t:T ε β}{ω:Type}
end
section
variable {α β γ δ ζ η θ ι:Type}[Enc α][Enc β][Enc γ][Enc δ][Enc ζ][Enc η][Enc θ][Enc ι]
structure Tp6 (α β γ δ ζ η:Type) where
 a:α
 b:β
 c:γ
 d:δ
 e:ζ
 f:η
structure Tp7 (α β γ δ ζ η θ:Type) where
 a:α
 b:β
 c:γ
 d:δ
 e:ζ
 f:η
 g:θ
structure Tp8 (α β γ δ ζ η θ ι:Type) where
 a:α
 b:β
 c:γ
 d:δ
 e:ζ
 f:η
 g:θ
 h:ι
instance:Enc (Tp6 α β γ δ ζ η):=⟨λ p=>.tuple [Enc.enc p.a,Enc.enc p.b,Enc.enc p.c,Enc.enc p.d,Enc.enc p.e,Enc.enc p.f]⟩
instance:Enc (Tp7 α β γ δ ζ η θ):=⟨λ p=>.tuple [Enc.enc p.a,Enc.enc p.b,Enc.enc p.c,Enc.enc p.d,Enc.enc p.e,Enc.enc p.f,Enc.enc p.g]⟩
instance:Enc (Tp8 α β γ δ ζ η θ ι):=⟨λ p=>.tuple [Enc.enc p.a,Enc.enc p.b,Enc.enc p.c,Enc.enc p.d,Enc.enc p.e,Enc.enc p.f,Enc.enc p.g,Enc.enc p.h]⟩
end
section
variable {A:LS}{ω β γ ε:Type}{B:β->LS}{X:ε->LS}{F:β->ω}
end
section
variable {α β:Type}[Enc α][Enc β]
end
end Ty
noncomputable section
namespace Ty
open PySem VS Lw L2
def fQ (apF:(List Suit)):T Empty ((List Bool)) :=
 (nR apF ([]:Marks)).bind λ(r1,_g1) =>
 .ok r1
def aV (aps:FolkT)(apt:(List Oath))(apu:PaL)(apv:MoL)(apw:(List Suit))(apx:(List Int))(apy:(Dt Tx Int))(apz:LDd):T Unit (Unit) :=
 if(decide ((400:Int)<=((List.length apz:Nat):Int)))=true then(.er 12 ()) else(.ok ())
def dN (self:MootT)(name:Tx)(day:Int)(weight:Int):T Unit (MootT) :=
 (T.up (((oG self.aps.arr self.aps.rks self.aps.des).bind λ r2 =>
 .ok r2):T Empty (FolkT))).bind λ people1 =>
 (iZ name day weight people1.arr people1.rks people1.des).bind λ(people4,people5) =>
 (aV self.aps self.apt self.apu self.apv self.apw self.apx self.apy self.apz).bind λ _ =>
 (T.up ((T.gd ((({ self with aps:={ people1 with arr:=people4,rks:=people5 } }:MootT).apz:LDd).length < sizeLine) <|
 .ok (({ self with aps:={ people1 with arr:=people4,rks:=people5 } }:MootT).apz++[(DeedT.mk [(Un.t (tx "come")),(Un.t name),(Un.i day),(Un.i weight)])])):T Empty (LDd))).bind λ told7 =>
 .ok { ({ self with aps:={ people1 with arr:=people4,rks:=people5 } }:MootT) with apz:=told7 }
def jo (self:MootT)(name:Tx)(day:Int)(weight:Int):T Unit (MootT) :=
 (T.up (((oG self.aps.arr self.aps.rks self.aps.des).bind λ r2 =>
 .ok r2):T Empty (FolkT))).bind λ people1 =>
 (jQ name day weight people1.arr people1.rks people1.des).bind λ people4 =>
 (aV self.aps self.apt self.apu self.apv self.apw self.apx self.apy self.apz).bind λ _ =>
 (T.up ((T.gd ((({ self with aps:={ people1 with rks:=people4 } }:MootT).apz:LDd).length < sizeLine) <|
 .ok (({ self with aps:={ people1 with rks:=people4 } }:MootT).apz++[(DeedT.mk [(Un.t (tx "rise")),(Un.t name),(Un.i day),(Un.i weight)])])):T Empty (LDd))).bind λ told6 =>
 .ok { ({ self with aps:={ people1 with rks:=people4 } }:MootT) with apz:=told6 }
def fY (self:MootT)(name:Tx)(day:Int)(heir:Tx):T Unit (MootT) :=
 (T.up (((oG self.aps.arr self.aps.rks self.aps.des).bind λ r2 =>
 .ok r2):T Empty (FolkT))).bind λ people1 =>
 (kY name day heir people1.arr people1.rks people1.des).bind λ people4 =>
 (aV self.aps self.apt self.apu self.apv self.apw self.apx self.apy self.apz).bind λ _ =>
 (T.up ((T.gd ((({ self with aps:={ people1 with des:=people4 } }:MootT).apz:LDd).length < sizeLine) <|
 .ok (({ self with aps:={ people1 with des:=people4 } }:MootT).apz++[(DeedT.mk [(Un.t (tx "die")),(Un.t name),(Un.i day),(Un.t heir)])])):T Empty (LDd))).bind λ told6 =>
 .ok { ({ self with aps:={ people1 with des:=people4 } }:MootT) with apz:=told6 }
def jd (name:Tx)(aps:FolkT)(apt:(List Oath))(apu:PaL)(apv:MoL)(apw:(List Suit))(apx:(List Int))(apy:(Dt Tx Int))(apz:LDd):T Unit ((Dt Tx Int)×LDd) :=
 (bV name aps.arr aps.rks aps.des).bind λ _ =>
 (T.up (pq name aps.arr aps.rks aps.des)).bind λ r2 =>
 if(Option.isSome r2)=true then(.er 10 ()) else((aV aps apt apu apv apw apx apy apz).bind λ _ =>
 T.gd (apy.length < sizeLine) <|
 T.gd (apz.length < sizeLine) <|
 .ok ((dput apy name ((List.length apw:Nat):Int)),(apz++[(DeedT.mk [(Un.t (tx "penance")),(Un.t name)])])))
def aX (names:(List Tx))(aps:FolkT)(apt:(List Oath))(apu:PaL)(apv:MoL)(apw:(List Suit))(apx:(List Int))(apy:(Dt Tx Int))(apz:LDd):T Unit (Unit) :=
 (T.forM names (():Unit) (λ(i1:Tx) _=>(((bV i1 aps.arr aps.rks aps.des).bind λ _ =>
 .ok ()):T Unit (Unit)))).bind λ _ =>
 .ok ()
def aU (names:(List Tx))(starts:(List Int))(day:Int)(aps:FolkT)(apt:(List Oath))(apu:PaL)(apv:MoL)(apw:(List Suit))(apx:(List Int))(apy:(Dt Tx Int))(apz:LDd):T Unit (Unit) :=
 (T.forM names (():Unit) (λ(i1:Tx) _=>(((aW i1 day aps.arr aps.rks aps.des).bind λ _ =>
 .ok ()):T Unit (Unit)))).bind λ _ =>
 (T.forM starts (():Unit) (λ(i3:Int) _=>((if(decide (day < i3))=true then(.er 9 ()) else(.ok ())):T Unit (Unit)))).bind λ _ =>
 .ok ()
def aY (names:(List Tx))(day:Int)(aps:FolkT)(apt:(List Oath))(apu:PaL)(apv:MoL)(apw:(List Suit))(apx:(List Int))(apy:(Dt Tx Int))(apz:LDd):T Unit (Unit) :=
 (T.forM names (():Unit) (λ(i1:Tx) _=>(((fL i1 day aps.arr aps.rks aps.des).bind λ _ =>
 .ok ()):T Unit (Unit)))).bind λ _ =>
 .ok ()
def cR (name:Tx)(day:Int)(aps:FolkT)(apt:(List Oath))(apu:PaL)(apv:MoL)(apw:(List Suit))(apx:(List Int))(apy:(Dt Tx Int))(apz:LDd):T Unit (Int×(List Oath)×LDd) :=
 (aR day ((0:Int)) ((9999:Int))).bind λ _ =>
 (aX (([name]:List Tx):(List Tx)) aps apt apu apv apw apx apy apz).bind λ _ =>
 (aU (([name]:List Tx):(List Tx)) (([]:List Int):(List Int)) day aps apt apu apv apw apx apy apz).bind λ _ =>
 (aY (([name]:List Tx):(List Tx)) day aps apt apu apv apw apx apy apz).bind λ _ =>
 (aV aps apt apu apv apw apx apy apz).bind λ _ =>
 if(decide ((40:Int)<=((List.length apt:Nat):Int)))=true then(.er 12 ()) else(T.gd (apt.length < sizeLine) <|
 T.gd (apz.length < sizeLine) <|
 .ok ((((List.length (apt++[(name,day)]):Nat):Int) - (1:Int)),(apt++[(name,day)]),(apz++[(DeedT.mk [(Un.t (tx "bring")),(Un.t name),(Un.i day)])])))
def dh (apQ:Int)(aps:FolkT)(apt:(List Oath))(apu:PaL)(apv:MoL)(apw:(List Suit))(apx:(List Int))(apy:(Dt Tx Int))(apz:LDd):T Unit (Unit) :=
 if((decide (apQ < (0:Int)))||(decide (((List.length apt:Nat):Int)<=apQ)))=true then(.er 6 ()) else(.ok ())
def lF (apQ:Int)(apL:Tx)(apM:Tx)(day:Int)(aps:FolkT)(apt:(List Oath))(apu:PaL)(apv:MoL)(apw:(List Suit))(apx:(List Int))(apy:(Dt Tx Int))(apz:LDd):T Unit (PaL×LDd) :=
 (aR day ((0:Int)) ((9999:Int))).bind λ _ =>
 (aX (([apL,apM]:List Tx):(List Tx)) aps apt apu apv apw apx apy apz).bind λ _ =>
 (dh apQ aps apt apu apv apw apx apy apz).bind λ _ =>
 (T.ofO (atI apt apQ)).bind λ x4 =>
 (aU (([apL,apM]:List Tx):(List Tx)) (([x4.2]:List Int):(List Int)) day aps apt apu apv apw apx apy apz).bind λ _ =>
 (aY (([apL,apM]:List Tx):(List Tx)) day aps apt apu apv apw apx apy apz).bind λ _ =>
 (aV aps apt apu apv apw apx apy apz).bind λ _ =>
 T.gd (apu.length < sizeLine) <|
 T.gd (apz.length < sizeLine) <|
 .ok ((apu++[(Tp3.mk apQ (Tp4.mk day (tx "given") (some apL) apM) (none:(Option Int)))]),(apz++[(DeedT.mk [(Un.t (tx "give")),(Un.i apQ),(Un.t apL),(Un.t apM),(Un.i day)])]))
def jD (apO:Tx)(apM:Tx)(many:Int)(day:Int)(aps:FolkT)(apt:(List Oath))(apu:PaL)(apv:MoL)(apw:(List Suit))(apx:(List Int))(apy:(Dt Tx Int))(apz:LDd):T Unit (MoL×LDd) :=
 (aR many ((1:Int)) ((1000000:Int))).bind λ _ =>
 (aR day ((0:Int)) ((9999:Int))).bind λ _ =>
 (aX (([apO,apM]:List Tx):(List Tx)) aps apt apu apv apw apx apy apz).bind λ _ =>
 (aU (([apO,apM]:List Tx):(List Tx)) (([]:List Int):(List Int)) day aps apt apu apv apw apx apy apz).bind λ _ =>
 (aY (([apO,apM]:List Tx):(List Tx)) day aps apt apu apv apw apx apy apz).bind λ _ =>
 (aV aps apt apu apv apw apx apy apz).bind λ _ =>
 T.gd (apv.length < sizeLine) <|
 T.gd (apz.length < sizeLine) <|
 .ok ((apv++[((Tp4.mk day apM apO many),(none:(Option Int)))]),(apz++[(DeedT.mk [(Un.t (tx "pay")),(Un.t apO),(Un.t apM),(Un.i many),(Un.i day)])]))
def jY (apG:MootT)(deed:DeedT):T Unit ((Option Int)×MootT) :=
 (T.nv (((T.ofO (atI deed.ps (0:Int))).bind λ x2 =>
 (T.ofO (Un.toT x2)).bind λ u3 =>
 .ok u3):T Empty (Tx))).bind λ y1 =>
 if(decide (y1=(tx "come")))=true then((T.nv (((T.ofO (atI deed.ps (1:Int))).bind λ x5 =>
 (T.ofO (Un.toT x5)).bind λ u6 =>
 .ok u6):T Empty (Tx))).bind λ y4 =>
 (T.nv (((T.ofO (atI deed.ps (2:Int))).bind λ x8 =>
 (T.ofO (Un.toI x8)).bind λ u9 =>
 .ok u9):T Empty (Int))).bind λ y7 =>
 (T.nv (((T.ofO (atI deed.ps (3:Int))).bind λ x11 =>
 (T.ofO (Un.toI x11)).bind λ u12 =>
 .ok u12):T Empty (Int))).bind λ y10 =>
 (dN apG y4 y7 y10).bind λ moot14 =>
 .ok ((none:(Option Int)),moot14)) else(if(decide (y1=(tx "rise")))=true then((T.nv (((T.ofO (atI deed.ps (1:Int))).bind λ x16 =>
 (T.ofO (Un.toT x16)).bind λ u17 =>
 .ok u17):T Empty (Tx))).bind λ y15 =>
 (T.nv (((T.ofO (atI deed.ps (2:Int))).bind λ x19 =>
 (T.ofO (Un.toI x19)).bind λ u20 =>
 .ok u20):T Empty (Int))).bind λ y18 =>
 (T.nv (((T.ofO (atI deed.ps (3:Int))).bind λ x22 =>
 (T.ofO (Un.toI x22)).bind λ u23 =>
 .ok u23):T Empty (Int))).bind λ y21 =>
 (jo apG y15 y18 y21).bind λ moot25 =>
 .ok ((none:(Option Int)),moot25)) else(if(decide (y1=(tx "die")))=true then((T.nv (((T.ofO (atI deed.ps (1:Int))).bind λ x27 =>
 (T.ofO (Un.toT x27)).bind λ u28 =>
 .ok u28):T Empty (Tx))).bind λ y26 =>
 (T.nv (((T.ofO (atI deed.ps (2:Int))).bind λ x30 =>
 (T.ofO (Un.toI x30)).bind λ u31 =>
 .ok u31):T Empty (Int))).bind λ y29 =>
 (T.nv (((T.ofO (atI deed.ps (3:Int))).bind λ x33 =>
 (T.ofO (Un.toT x33)).bind λ u34 =>
 .ok u34):T Empty (Tx))).bind λ y32 =>
 (fY apG y26 y29 y32).bind λ moot36 =>
 .ok ((none:(Option Int)),moot36)) else(if(decide (y1=(tx "penance")))=true then((T.nv (((T.ofO (atI deed.ps (1:Int))).bind λ x38 =>
 (T.ofO (Un.toT x38)).bind λ u39 =>
 .ok u39):T Empty (Tx))).bind λ y37 =>
 (jd y37 apG.aps apG.apt apG.apu apG.apv apG.apw apG.apx apG.apy apG.apz).bind λ(moot41,moot42) =>
 .ok ((none:(Option Int)),{ apG with apy:=moot41,apz:=moot42 })) else(if(decide (y1=(tx "bring")))=true then((T.nv (((T.ofO (atI deed.ps (1:Int))).bind λ x44 =>
 (T.ofO (Un.toT x44)).bind λ u45 =>
 .ok u45):T Empty (Tx))).bind λ y43 =>
 (T.nv (((T.ofO (atI deed.ps (2:Int))).bind λ x47 =>
 (T.ofO (Un.toI x47)).bind λ u48 =>
 .ok u48):T Empty (Int))).bind λ y46 =>
 (cR y43 y46 apG.aps apG.apt apG.apu apG.apv apG.apw apG.apx apG.apy apG.apz).bind λ(r49,moot50,moot51) =>
 .ok ((some r49),{ apG with apt:=moot50,apz:=moot51 })) else(if(decide (y1=(tx "give")))=true then((T.nv (((T.ofO (atI deed.ps (1:Int))).bind λ x53 =>
 (T.ofO (Un.toI x53)).bind λ u54 =>
 .ok u54):T Empty (Int))).bind λ y52 =>
 (T.nv (((T.ofO (atI deed.ps (2:Int))).bind λ x56 =>
 (T.ofO (Un.toT x56)).bind λ u57 =>
 .ok u57):T Empty (Tx))).bind λ y55 =>
 (T.nv (((T.ofO (atI deed.ps (3:Int))).bind λ x59 =>
 (T.ofO (Un.toT x59)).bind λ u60 =>
 .ok u60):T Empty (Tx))).bind λ y58 =>
 (T.nv (((T.ofO (atI deed.ps (4:Int))).bind λ x62 =>
 (T.ofO (Un.toI x62)).bind λ u63 =>
 .ok u63):T Empty (Int))).bind λ y61 =>
 (lF y52 y55 y58 y61 apG.aps apG.apt apG.apu apG.apv apG.apw apG.apx apG.apy apG.apz).bind λ(moot65,moot66) =>
 .ok ((none:(Option Int)),{ apG with apu:=moot65,apz:=moot66 })) else((T.nv (((T.ofO (atI deed.ps (1:Int))).bind λ x68 =>
 (T.ofO (Un.toT x68)).bind λ u69 =>
 .ok u69):T Empty (Tx))).bind λ y67 =>
 (T.nv (((T.ofO (atI deed.ps (2:Int))).bind λ x71 =>
 (T.ofO (Un.toT x71)).bind λ u72 =>
 .ok u72):T Empty (Tx))).bind λ y70 =>
 (T.nv (((T.ofO (atI deed.ps (3:Int))).bind λ x74 =>
 (T.ofO (Un.toI x74)).bind λ u75 =>
 .ok u75):T Empty (Int))).bind λ y73 =>
 (T.nv (((T.ofO (atI deed.ps (4:Int))).bind λ x77 =>
 (T.ofO (Un.toI x77)).bind λ u78 =>
 .ok u78):T Empty (Int))).bind λ y76 =>
 (jD y67 y70 y73 y76 apG.aps apG.apt apG.apu apG.apv apG.apw apG.apx apG.apy apG.apz).bind λ(moot80,moot81) =>
 .ok ((none:(Option Int)),{ apG with apv:=moot80,apz:=moot81 })))))))
def iw (aps:FolkT)(apt:(List Oath))(apu:PaL)(apv:MoL)(apw:(List Suit))(apx:(List Int))(apy:(Dt Tx Int))(apz:LDd):T Empty ((List Tx)) :=
 (fQ apw).bind λ r1 =>
 (T.forM (enT 0 apw) (([]:List Tx):(List Tx)) (λ(i2:(Int×Suit)) names4=>(((T.ofO (atI r1 i2.1)).bind λ x5 =>
 if x5=true then(if(Option.isSome i2.2.d)=true then((T.ofO i2.2.d).bind λ u6 =>
 if(decide (((dget apy u6.2).getD (0:Int))<=i2.1))=true then(T.gd (names4.length < sizeLine) <|
 .ok (names4++[u6.2])) else(.ok names4)) else(.ok names4)) else(.ok names4)):T Empty ((List Tx))))).bind λ names4 =>
 .ok names4
def cH (apK:(List Tx))(apJ:(List Tx))(aps:FolkT)(apt:(List Oath))(apu:PaL)(apv:MoL)(apw:(List Suit))(apx:(List Int))(apy:(Dt Tx Int))(apz:LDd):T Unit (Unit) :=
 (aV aps apt apu apv apw apx apy apz).bind λ _ =>
 if((decide ((60:Int)<=((List.length apw:Nat):Int)))||((decide ((12:Int) < ((List.length apK:Nat):Int)))||(decide ((12:Int) < ((List.length apJ:Nat):Int)))))=true then(.er 12 ()) else((T.nv (((T.ofO (catT apK apJ)).bind λ x3 =>
 (T.ofO (aba x3)).bind λ x4 =>
 (T.ofO (catT apK apJ)).bind λ x5 =>
 .ok (decide (x4 < ((List.length x5:Nat):Int)))):T Empty (Bool))).bind λ y2 =>
 if y2=true then(.er 13 ()) else((T.up (iw aps apt apu apv apw apx apy apz)).bind λ r6 =>
 (T.nv (((T.ofO (catT apK apJ)).bind λ x8 =>
 .ok x8):T Empty ((List Tx)))).bind λ y7 =>
 (T.forM y7 (():Unit) (λ(i9:Tx) _=>((if(memT i9 r6)=true then(.er 14 ()) else(.ok ())):T Unit (Unit)))).bind λ _ =>
 .ok ()))
def eZ (day:Int)(need:Int)(apK:(List Tx))(apJ:(List Tx))(named:(Option (Int×Tx)))(aps:FolkT)(apt:(List Oath))(apu:PaL)(apv:MoL)(apw:(List Suit))(apx:(List Int))(apy:(Dt Tx Int))(apz:LDd):T Unit (Suit) :=
 (T.lcs apK (λ(i1:Tx)=>(((cY i1 day aps.arr aps.rks aps.des).bind λ r3 =>
 .ok (some (i1,r3))):T Unit (Option Oath)))).bind λ l2 =>
 (T.lcs apJ (λ(i4:Tx)=>(((cY i4 day aps.arr aps.rks aps.des).bind λ r6 =>
 .ok (some (i4,r6))):T Unit (Option Oath)))).bind λ l5 =>
 (T.up (yw l2)).bind λ r7 =>
 if(decide (r7 < need))=true then(.er 15 ()) else(.ok (Tp4.mk l2 l5 need named))
def fM (suit:Suit)(day:Int)(deed:DeedT)(aps:FolkT)(apt:(List Oath))(apu:PaL)(apv:MoL)(apw:(List Suit))(apx:(List Int))(apy:(Dt Tx Int))(apz:LDd):T Empty (Int×(List Suit)×(List Int)×LDd) :=
 T.gd (apw.length < sizeLine) <|
 T.gd (apx.length < sizeLine) <|
 (wZ deed).bind λ r1 =>
 T.gd (apz.length < sizeLine) <|
 .ok ((((List.length (apw++[suit]):Nat):Int) - (1:Int)),(apw++[suit]),(apx++[day]),(apz++[r1]))
def jZ (apH:Tx)(apQ:Int)(day:Int)(need:Int)(apK:(List Tx))(apJ:(List Tx))(aps:FolkT)(apt:(List Oath))(apu:PaL)(apv:MoL)(apw:(List Suit))(apx:(List Int))(apy:(Dt Tx Int))(apz:LDd):T Unit (Int×PaL×(List Suit)×(List Int)×LDd) :=
 (T.nv (((T.ofO (catT (([apH]:List Tx):(List Tx)) apK)).bind λ x2 =>
 (T.ofO (catT x2 apJ)).bind λ x3 =>
 .ok x3):T Empty ((List Tx)))).bind λ y1 =>
 (aR day ((0:Int)) ((9999:Int))).bind λ _ =>
 (aR need ((1:Int)) ((12000:Int))).bind λ _ =>
 (aX y1 aps apt apu apv apw apx apy apz).bind λ _ =>
 (dh apQ aps apt apu apv apw apx apy apz).bind λ _ =>
 (T.ofO (atI apt apQ)).bind λ x8 =>
 (aU y1 (([x8.2]:List Int):(List Int)) day aps apt apu apv apw apx apy apz).bind λ _ =>
 (aY y1 day aps apt apu apv apw apx apy apz).bind λ _ =>
 (cH apK apJ aps apt apu apv apw apx apy apz).bind λ _ =>
 (eZ day need apK apJ ((none:(Option (Int×Tx))):(Option (Int×Tx))) aps apt apu apv apw apx apy apz).bind λ r12 =>
 (T.up (fM r12 day ((DeedT.mk [(Un.t (tx "claim")),(Un.t apH),(Un.i apQ),(Un.i day),(Un.i need),(Un.l apK),(Un.l apJ)]):DeedT) aps apt apu apv apw apx apy apz)).bind λ(r13,trials14,trial_days15,told16) =>
 T.gd (apu.length < sizeLine) <|
 .ok (r13,(apu++[(Tp3.mk apQ (Tp4.mk day (tx "won") (none:(Option Tx)) apH) (some r13))]),trials14,trial_days15,told16)
def je (apH:Tx)(apI:Tx)(many:Int)(day:Int)(need:Int)(apK:(List Tx))(apJ:(List Tx))(aps:FolkT)(apt:(List Oath))(apu:PaL)(apv:MoL)(apw:(List Suit))(apx:(List Int))(apy:(Dt Tx Int))(apz:LDd):T Unit (Int×MoL×(List Suit)×(List Int)×LDd) :=
 (T.nv (((T.ofO (catT (([apH,apI]:List Tx):(List Tx)) apK)).bind λ x2 =>
 (T.ofO (catT x2 apJ)).bind λ x3 =>
 .ok x3):T Empty ((List Tx)))).bind λ y1 =>
 (aR many ((1:Int)) ((1000000:Int))).bind λ _ =>
 (aR day ((0:Int)) ((9999:Int))).bind λ _ =>
 (aR need ((1:Int)) ((12000:Int))).bind λ _ =>
 (aX y1 aps apt apu apv apw apx apy apz).bind λ _ =>
 (aU y1 (([]:List Int):(List Int)) day aps apt apu apv apw apx apy apz).bind λ _ =>
 (aY y1 day aps apt apu apv apw apx apy apz).bind λ _ =>
 (cH apK apJ aps apt apu apv apw apx apy apz).bind λ _ =>
 (eZ day need apK apJ ((none:(Option (Int×Tx))):(Option (Int×Tx))) aps apt apu apv apw apx apy apz).bind λ r11 =>
 (T.up (fM r11 day ((DeedT.mk [(Un.t (tx "wergild")),(Un.t apH),(Un.t apI),(Un.i many),(Un.i day),(Un.i need),(Un.l apK),(Un.l apJ)]):DeedT) aps apt apu apv apw apx apy apz)).bind λ(r12,trials13,trial_days14,told15) =>
 T.gd (apv.length < sizeLine) <|
 .ok (r12,(apv++[((Tp4.mk day apI apH many),(some r12))]),trials13,trial_days14,told15)
def jE (case_:Int)(name:Tx)(day:Int)(need:Int)(apK:(List Tx))(apJ:(List Tx))(aps:FolkT)(apt:(List Oath))(apu:PaL)(apv:MoL)(apw:(List Suit))(apx:(List Int))(apy:(Dt Tx Int))(apz:LDd):T Unit (Int×(List Suit)×(List Int)×LDd) :=
 (T.nv (((T.ofO (catT apK apJ)).bind λ x2 =>
 .ok x2):T Empty ((List Tx)))).bind λ y1 =>
 (aR day ((0:Int)) ((9999:Int))).bind λ _ =>
 (aR need ((1:Int)) ((12000:Int))).bind λ _ =>
 (aX y1 aps apt apu apv apw apx apy apz).bind λ _ =>
 (mX apw case_ name).bind λ _ =>
 (T.ofO (atI apx case_)).bind λ x7 =>
 (aU y1 (([x7]:List Int):(List Int)) day aps apt apu apv apw apx apy apz).bind λ _ =>
 (aY y1 day aps apt apu apv apw apx apy apz).bind λ _ =>
 (cH apK apJ aps apt apu apv apw apx apy apz).bind λ _ =>
 (eZ day need apK apJ ((some (case_,name)):(Option (Int×Tx))) aps apt apu apv apw apx apy apz).bind λ r11 =>
 (T.up (pN apw)).bind λ r12 =>
 if(memT ((case_,name):(Int×Tx)) r12)=true then(.er 16 ()) else((T.up (fM r11 day ((DeedT.mk [(Un.t (tx "accuse")),(Un.i case_),(Un.t name),(Un.i day),(Un.i need),(Un.l apK),(Un.l apJ)]):DeedT) aps apt apu apv apw apx apy apz)).bind λ(r13,trials14,trial_days15,told16) =>
 .ok (r13,trials14,trial_days15,told16))
def jy (apG:MootT)(deed:DeedT):T Unit ((Option Int)×MootT) :=
 (T.nv (((T.ofO (atI deed.ps (0:Int))).bind λ x2 =>
 (T.ofO (Un.toT x2)).bind λ u3 =>
 .ok u3):T Empty (Tx))).bind λ y1 =>
 if(!(memT y1 ((Kt.mk ["claim","wergild","accuse"])).ts))=true then((jY apG deed).bind λ(r4,moot5) =>
 .ok (r4,moot5)) else(if(decide (y1=(tx "claim")))=true then((T.nv (((T.ofO (atI deed.ps (1:Int))).bind λ x7 =>
 (T.ofO (Un.toT x7)).bind λ u8 =>
 .ok u8):T Empty (Tx))).bind λ y6 =>
 (T.nv (((T.ofO (atI deed.ps (2:Int))).bind λ x10 =>
 (T.ofO (Un.toI x10)).bind λ u11 =>
 .ok u11):T Empty (Int))).bind λ y9 =>
 (T.nv (((T.ofO (atI deed.ps (3:Int))).bind λ x13 =>
 (T.ofO (Un.toI x13)).bind λ u14 =>
 .ok u14):T Empty (Int))).bind λ y12 =>
 (T.nv (((T.ofO (atI deed.ps (4:Int))).bind λ x16 =>
 (T.ofO (Un.toI x16)).bind λ u17 =>
 .ok u17):T Empty (Int))).bind λ y15 =>
 (T.ofO (atI deed.ps (5:Int))).bind λ x18 =>
 (T.ofO (Un.toL x18)).bind λ u19 =>
 (T.ofO (atI deed.ps (6:Int))).bind λ x20 =>
 (T.ofO (Un.toL x20)).bind λ u21 =>
 (jZ y6 y9 y12 y15 u19 u21 apG.aps apG.apt apG.apu apG.apv apG.apw apG.apx apG.apy apG.apz).bind λ(r22,moot23,moot24,moot25,moot26) =>
 .ok ((some r22),{ apG with apu:=moot23,apw:=moot24,apx:=moot25,apz:=moot26 })) else(if(decide (y1=(tx "wergild")))=true then((T.nv (((T.ofO (atI deed.ps (1:Int))).bind λ x28 =>
 (T.ofO (Un.toT x28)).bind λ u29 =>
 .ok u29):T Empty (Tx))).bind λ y27 =>
 (T.nv (((T.ofO (atI deed.ps (2:Int))).bind λ x31 =>
 (T.ofO (Un.toT x31)).bind λ u32 =>
 .ok u32):T Empty (Tx))).bind λ y30 =>
 (T.nv (((T.ofO (atI deed.ps (3:Int))).bind λ x34 =>
 (T.ofO (Un.toI x34)).bind λ u35 =>
 .ok u35):T Empty (Int))).bind λ y33 =>
 (T.nv (((T.ofO (atI deed.ps (4:Int))).bind λ x37 =>
 (T.ofO (Un.toI x37)).bind λ u38 =>
 .ok u38):T Empty (Int))).bind λ y36 =>
 (T.nv (((T.ofO (atI deed.ps (5:Int))).bind λ x40 =>
 (T.ofO (Un.toI x40)).bind λ u41 =>
 .ok u41):T Empty (Int))).bind λ y39 =>
 (T.ofO (atI deed.ps (6:Int))).bind λ x42 =>
 (T.ofO (Un.toL x42)).bind λ u43 =>
 (T.ofO (atI deed.ps (7:Int))).bind λ x44 =>
 (T.ofO (Un.toL x44)).bind λ u45 =>
 (je y27 y30 y33 y36 y39 u43 u45 apG.aps apG.apt apG.apu apG.apv apG.apw apG.apx apG.apy apG.apz).bind λ(r46,moot47,moot48,moot49,moot50) =>
 .ok ((some r46),{ apG with apv:=moot47,apw:=moot48,apx:=moot49,apz:=moot50 })) else((T.nv (((T.ofO (atI deed.ps (1:Int))).bind λ x52 =>
 (T.ofO (Un.toI x52)).bind λ u53 =>
 .ok u53):T Empty (Int))).bind λ y51 =>
 (T.nv (((T.ofO (atI deed.ps (2:Int))).bind λ x55 =>
 (T.ofO (Un.toT x55)).bind λ u56 =>
 .ok u56):T Empty (Tx))).bind λ y54 =>
 (T.nv (((T.ofO (atI deed.ps (3:Int))).bind λ x58 =>
 (T.ofO (Un.toI x58)).bind λ u59 =>
 .ok u59):T Empty (Int))).bind λ y57 =>
 (T.nv (((T.ofO (atI deed.ps (4:Int))).bind λ x61 =>
 (T.ofO (Un.toI x61)).bind λ u62 =>
 .ok u62):T Empty (Int))).bind λ y60 =>
 (T.ofO (atI deed.ps (5:Int))).bind λ x63 =>
 (T.ofO (Un.toL x63)).bind λ u64 =>
 (T.ofO (atI deed.ps (6:Int))).bind λ x65 =>
 (T.ofO (Un.toL x65)).bind λ u66 =>
 (jE y51 y54 y57 y60 u64 u66 apG.aps apG.apt apG.apu apG.apv apG.apw apG.apx apG.apy apG.apz).bind λ(r67,moot68,moot69,moot70) =>
 .ok ((some r67),{ apG with apw:=moot68,apx:=moot69,apz:=moot70 }))))
end Ty
namespace Ty
open PySem VS L2
section
variable {α β:Type}
def Pe (t:T Unit α)(P:α->Prop):Prop:=match t with
 | .ok a=>P a
 | .er k _=>2<=k/\k<=16
 | .no=>False
theorem dY {a:α}{P:α->Prop}(h:P a):Pe (.ok a) P:=h
theorem lZ {k:Nat}{u:Unit}{P:α->Prop}(h:2<=k/\k<=16:=by decide):Pe (.er k u) P:=h
theorem au {t:T Unit α}{k:α->T Unit β}{P:α->Prop}{Q:β->Prop}(h:Pe t P)(h2:∀ a,P a->Pe (k a) Q):Pe (t.bind k) Q:=by
 cases t with
 | ok a=>exact h2 a h
 | er c x=>exact h
 | no=>exact h.elim
theorem amV {t:T Unit α}{P Q:α->Prop}(h:Pe t P)(h2:∀ a,P a->Q a):Pe t Q:=by
 cases t with
 | ok a=>exact h2 a h
 | er c x=>exact h
 | no=>exact h.elim
theorem sG {p:Prop}[Decidable p]{t:T Unit α}{P:α->Prop}(hp:p)(h:Pe t P):Pe (T.gd p t) P:=by
 rw[T.gd_of hp];exact h
theorem tK {c:Bool}{t u:T Unit α}{P:α->Prop}(h1:c=true->Pe t P)(h2:c=false->Pe u P):Pe (if c=true then t else u) P:=by
 cases c with
 | true=>exact h1 rfl
 | false=>exact h2 rfl
theorem tL {f:α->Unit->T Unit Unit}{R:α->Prop}:∀ {xs:List α},(∀ x∈xs,Pe (f x ()) λ _=>R x)->Pe (T.forM xs () f) λ _=>∀ x∈xs,R x
 | [],_=>dY λ x hx=>nomatch hx
 | y::ys,h=>by
  refine au (h y List.mem_cons_self) λ a ha=>?_
  cases a
  exact amV (tL λ x hx=>h x (List.mem_cons_of_mem _ hx)) λ _ hr x hx=>by
   rcases List.mem_cons.mp hx with rfl | hx
   ·exact ha
   ·exact hr x hx
end
inductive Wd where
 | come (n:Tx) (d w:Int)
 | rise (n:Tx) (d w:Int)
 | die (n:Tx) (d:Int) (h:Tx)
 | penance (n:Tx)
 | bring (n:Tx) (d:Int)
 | give (t:Int) (a b:Tx) (d:Int)
 | pay (a b:Tx) (c d:Int)
 | claim (a:Tx) (t d x:Int) (o p:List Tx)
 | wergild (a b:Tx) (c d x:Int) (o p:List Tx)
 | accuse (k:Int) (n:Tx) (d x:Int) (o p:List Tx)
def Wd.t:Wd->DeedT
 | .come n d w=>DeedT.mk [(Un.t (tx "come")),(Un.t n),(Un.i d),(Un.i w)]
 | .rise n d w=>DeedT.mk [(Un.t (tx "rise")),(Un.t n),(Un.i d),(Un.i w)]
 | .die n d h=>DeedT.mk [(Un.t (tx "die")),(Un.t n),(Un.i d),(Un.t h)]
 | .penance n=>DeedT.mk [(Un.t (tx "penance")),(Un.t n)]
 | .bring n d=>DeedT.mk [(Un.t (tx "bring")),(Un.t n),(Un.i d)]
 | .give t a b d=>DeedT.mk [(Un.t (tx "give")),(Un.i t),(Un.t a),(Un.t b),(Un.i d)]
 | .pay a b c d=>DeedT.mk [(Un.t (tx "pay")),(Un.t a),(Un.t b),(Un.i c),(Un.i d)]
 | .claim a t d x o p=>DeedT.mk [(Un.t (tx "claim")),(Un.t a),(Un.i t),(Un.i d),(Un.i x),(Un.l o),(Un.l p)]
 | .wergild a b c d x o p=>DeedT.mk [(Un.t (tx "wergild")),(Un.t a),(Un.t b),(Un.i c),(Un.i d),(Un.i x),(Un.l o),(Un.l p)]
 | .accuse k n d x o p=>DeedT.mk [(Un.t (tx "accuse")),(Un.i k),(Un.t n),(Un.i d),(Un.i x),(Un.l o),(Un.l p)]
structure Cs where
 day:Int
 need:Int
 apK:List Tx
 apJ:List Tx
 named:Option (Int×Tx)
def Wd.come?:Wd->Option (Tx×Int)
 | .come n d _=>some (n,d)
 | _=>none
def Wd.rank?:Wd->Option (Tp3 Tx Int Int)
 | .come n d w=>some ⟨n,d,w⟩
 | .rise n d w=>some ⟨n,d,w⟩
 | _=>none
def Wd.bring?:Wd->Option (Tx×Int)
 | .bring n d=>some (n,d)
 | _=>none
def Wd.case?:Wd->Option Cs
 | .claim _ _ d x o p=>some ⟨d,x,o,p,none⟩
 | .wergild _ _ _ d x o p=>some ⟨d,x,o,p,none⟩
 | .accuse k n d x o p=>some ⟨d,x,o,p,some (k,n)⟩
 | _=>none
def Wd.Wf:Wd->Prop
 | .come n _ _=>n.cs.length<=100000
 | .claim _ _ _ _ o p=>o.length<=1000/\p.length<=1000
 | .wergild _ _ _ _ _ o p=>o.length<=1000/\p.length<=1000
 | .accuse _ _ _ _ o p=>o.length<=1000/\p.length<=1000
 | _=>True
theorem du {α β:Type}(f:α->Option β)(xs:List α)(e:α):(xs++[e]).filterMap f=xs.filterMap f++(f e).toList:=by
 rw[List.filterMap_append]
 cases h:f e<;>simp[List.filterMap_cons,h]
def wgo (n:Tx)(d:Int)(x:Int×Int)(r:Tp3 Tx Int Int):Int×Int:=if((decide (r.a=n))&&((decide (x.1<=r.b))&&(decide (r.b<=d))))=true then(r.b,r.c) else x
def wgR (rks:List (Tp3 Tx Int Int))(n:Tx)(d:Int):Int:=(rks.foldl (wgo n d) (0,0)).2
def wgt (ds:List Wd)(n:Tx)(d:Int):Int:=wgR (ds.filterMap Wd.rank?) n d
def suitD (ds:List Wd)(c:Cs):Suit:=Tp4.mk (c.apK.map λ n=>(n,wgt ds n c.day)) (c.apJ.map λ n=>(n,wgt ds n c.day)) c.need c.named
theorem amW {arr:Dt Tx Int}{rks:List (Tp3 Tx Int Int)}{de:Des}{n:Tx}{d v:Int}(hv:dget arr n=some v)(h1:0<=d/\d<=9999)(h2:v<=d):cY n d arr rks de=.ok (wgR rks n d):=by
 unfold cY;rw[abb,if_neg (by omega),T.ok_bind,yJ,hv,if_neg (by simp),T.ok_bind,yK hv,if_neg (by omega),T.ok_bind]
 rw[aab (g:=λ r x=>wgo n d x r) (λ r _ x=>by
  unfold wgo;obtain⟨x1,x2⟩:=x;show(if((decide (r.a=n))&&((decide (x1<=r.b))&&(decide (r.b<=d))))=true then _ else _)=T.ok (if((decide (r.a=n))&&((decide (x1<=r.b))&&(decide (r.b<=d))))=true then _ else _)
  split<;>rfl)]
 rfl
theorem akJ {n:Tx}{d:Int}{x:Int×Int}{r:Tp3 Tx Int Int}(h:1<=r.c/\r.c<=1000)(hx:1<=x.2/\x.2<=1000):1<=(wgo n d x r).2/\(wgo n d x r).2<=1000:=by
 unfold wgo
 split
 ·exact h
 ·exact hx
theorem akK {n:Tx}{v d:Int}:∀ {rks:List (Tp3 Tx Int Int)},(∀ r∈rks,0<=r.b/\1<=r.c/\r.c<=1000)->(∃ w,(Tp3.mk n v w)∈rks)->v<=d->1<=wgR rks n d/\wgR rks n d<=1000:=by
 intro rks h ⟨w,hw⟩ hv;unfold wgR
 have good:∀ (l:List (Tp3 Tx Int Int)),(∀ r∈l,0<=r.b/\1<=r.c/\r.c<=1000)->∀ x:Int×Int,(1<=x.2/\x.2<=1000)->1<=(l.foldl (wgo n d) x).2/\(l.foldl (wgo n d) x).2<=1000:=by
  intro l
  induction l with
  | nil=>exact λ _ x hx=>hx
  | cons r l ih =>
   intro hl x hx;rw[List.foldl_cons];exact ih (λ z hz=>hl z (List.mem_cons_of_mem _ hz)) _ (akJ (hl r List.mem_cons_self).2 hx)
 induction rks with
 | nil=>cases hw
 | cons r l ih =>
  rw[List.foldl_cons]
  have hr:=h r List.mem_cons_self
  have hl:∀ z∈l,0<=z.b/\1<=z.c/\z.c<=1000:=λ z hz=>h z (List.mem_cons_of_mem _ hz)
  by_cases c:((decide (r.a=n))&&((decide ((0:Int)<=r.b))&&(decide (r.b<=d))))=true
  ·have e:wgo n d (0,0) r=(r.b,r.c):=if_pos c
   rw[e];exact good l hl _ hr.2
  ·have e:wgo n d (0,0) r=(0,0):=if_neg c
   rw[e];rcases List.mem_cons.mp hw with hw | hw
   ·subst hw
    exact absurd (by simp[hr.1,hv]) c
   ·exact ih hl hw
structure MInv (ds:List Wd)(m:MootT):Prop where
 apz:m.apz=ds.map Wd.t
 arr:m.aps.arr=ds.filterMap Wd.come?
 nd:(m.aps.arr.map Prod.fst).Nodup
 ag:∀ p∈m.aps.arr,GoodT p.1/\0<=p.2
 rks:m.aps.rks=ds.filterMap Wd.rank?
 rk0:∀ r∈m.aps.rks,0<=r.b/\1<=r.c/\r.c<=1000
 cr:∀ p∈m.aps.arr,∃ w,(Tp3.mk p.1 p.2 w:Tp3 Tx Int Int)∈m.aps.rks
 dl:m.aps.des.length<=ds.length
 pn:m.apy.length<=ds.length
 br:m.apt=ds.filterMap Wd.bring?
 pa:m.apu.length<=ds.length
 mo:m.apv.length<=ds.length
 tr:SOk m.apw
 tc:m.apx=(ds.filterMap Wd.case?).map Cs.day
 tl:m.apw.length=(ds.filterMap Wd.case?).length
 wt:∀ u∈m.apw,u.c<=sumW u.a
theorem ahU:MInv [] pA:=⟨rfl,rfl,List.nodup_nil,by simp,rfl,by simp,by simp,Nat.le_refl _,Nat.le_refl _,rfl,Nat.le_refl _,Nat.le_refl _,⟨by simp,by simp,by simp⟩,rfl,rfl,by simp⟩
def eff (ds:List Wd)(m:MootT):Wd->MootT
 | .come n d w=>{ m with aps:=⟨m.aps.arr++[(n,d)],m.aps.rks++[Tp3.mk n d w],m.aps.des⟩,apz:=m.apz++[Wd.t (.come n d w)] }
 | .rise n d w=>{ m with aps:=⟨m.aps.arr,m.aps.rks++[Tp3.mk n d w],m.aps.des⟩,apz:=m.apz++[Wd.t (.rise n d w)] }
 | .die n d h=>{ m with aps:=⟨m.aps.arr,m.aps.rks,m.aps.des++[(n,(d,h))]⟩,apz:=m.apz++[Wd.t (.die n d h)] }
 | .penance n=>{ m with apy:=dput m.apy n ((m.apw.length:Nat):Int),apz:=m.apz++[Wd.t (.penance n)] }
 | .bring n d=>{ m with apt:=m.apt++[(n,d)],apz:=m.apz++[Wd.t (.bring n d)] }
 | .give t a b d=>{ m with apu:=m.apu++[Tp3.mk t (Tp4.mk d (tx "given") (some a) b) none],apz:=m.apz++[Wd.t (.give t a b d)] }
 | .pay a b c d=>{ m with apv:=m.apv++[(Tp4.mk d b a c,none)],apz:=m.apz++[Wd.t (.pay a b c d)] }
 | .claim a t d x o p=>{ m with apu:=m.apu++[Tp3.mk t (Tp4.mk d (tx "won") none a) (some ((m.apw.length:Nat):Int))],apw:=m.apw++[suitD ds ⟨d,x,o,p,none⟩],apx:=m.apx++[d],apz:=m.apz++[Wd.t (.claim a t d x o p)] }
 | .wergild a b c d x o p=>{ m with apv:=m.apv++[(Tp4.mk d b a c,some ((m.apw.length:Nat):Int))],apw:=m.apw++[suitD ds ⟨d,x,o,p,none⟩],apx:=m.apx++[d],apz:=m.apz++[Wd.t (.wergild a b c d x o p)] }
 | .accuse k n d x o p=>{ m with apw:=m.apw++[suitD ds ⟨d,x,o,p,some (k,n)⟩],apx:=m.apx++[d],apz:=m.apz++[Wd.t (.accuse k n d x o p)] }
def resD (m:MootT):Wd->Option Int
 | .bring _ _=>some ((m.apt.length:Nat):Int)
 | .claim _ _ _ _ _ _=>some ((m.apw.length:Nat):Int)
 | .wergild _ _ _ _ _ _ _=>some ((m.apw.length:Nat):Int)
 | .accuse _ _ _ _ _ _=>some ((m.apw.length:Nat):Int)
 | _=>none
section
variable {arr:Dt Tx Int}{rks:List (Tp3 Tx Int Int)}{de:Des}
theorem iJ (a lo hi:Int):Pe (aR a lo hi) λ _=>lo<=a/\a<=hi:=by
 rw[abb]
 by_cases h:a < lo∨hi < a
 ·rw[if_pos h];exact lZ
 ·rw[if_neg h];exact dY ⟨by omega,by omega⟩
theorem sH (n:Tx):Pe (bV n arr rks de) λ _=>∃ v,dget arr n=some v:=by
 rw[yJ]
 cases h:dget arr n with
 | none=>rw[if_pos (by simp)];exact lZ
 | some v=>rw[if_neg (by simp)];exact dY ⟨v,rfl⟩
theorem uN {n:Tx}{v:Int}(h:dget arr n=some v)(d:Int):Pe (aW n d arr rks de) λ _=>v<=d:=by
 rw[yK h]
 by_cases c:d < v
 ·rw[if_pos c];exact lZ
 ·rw[if_neg c];exact dY (by omega)
theorem acg (n:Tx)(d:Int):Pe (fL n d arr rks de) λ _=>deadB de n d=false:=by
 rw[acf]
 cases h:deadB de n d with
 | true=>rw[if_pos (by simp)];exact lZ
 | false=>rw[if_neg (by simp)];exact dY rfl
theorem ahV {x:Tx}(h:Lw.isN (x.cs.map (·.val))=true):GoodT x:=by
 unfold Lw.isN at h;rw[Bool.and_eq_true,List.all_eq_true,decide_eq_true_eq,List.length_map]at h;exact⟨λ c hc=>of_decide_eq_true (h.2 _ (List.mem_map_of_mem hc)),h.1⟩
theorem akL {d:Dt Tx Int}{n:Tx}(h:dget d n=none):n∉d.map Prod.fst:=λ z=>by
 obtain⟨v,e,_⟩:=o9 z;rw[h]at e
 cases e
theorem akM {n:Tx}(hn:n.cs.length<=100000)(ha:arr.length<=1000)(hr:rks.length<=2000)(d w:Int):Pe (iZ n d w arr rks de) λ p=>p=(arr++[(n,d)],rks++[Tp3.mk n d w])/\GoodT n/\n∉arr.map Prod.fst/\(0<=d/\d<=9999)/\(1<=w/\w<=1000):=by
 unfold iZ;rw[pP hn,T.up_ok,T.ok_bind]
 cases h:Lw.isN (n.cs.map (·.val)) with
 | false=>rw[if_pos (by simp)];exact lZ
 | true =>
  rw[if_neg (by simp)];refine au (iJ _ _ _) λ _ h1=>au (iJ _ _ _) λ _ h2=>?_
  cases hg:dget arr n with
  | some v=>rw[if_pos (by simp)];exact lZ
  | none =>
   rw[if_neg (by simp)];refine tK (λ _=>lZ) λ _=>sG (szl _ (by omega)) (sG (szl _ (by omega)) (dY ⟨?_,ahV h,akL hg,h1,h2⟩));rw[vO hg]
theorem afl (n:Tx)(hr:rks.length<=2000)(d w:Int):Pe (jQ n d w arr rks de) λ p=>p=rks++[Tp3.mk n d w]/\(0<=d/\d<=9999)/\(1<=w/\w<=1000)/\(∃ v,dget arr n=some v/\v<=d)/\deadB de n d=false:=by
 unfold jQ;refine au (iJ _ _ _) λ _ h1=>au (iJ _ _ _) λ _ h2=>au (sH n) λ _ ⟨v,hv⟩=>au (uN hv d) λ _ h3=>au (acg n d) λ _ h4=>sG (szl _ (by omega)) (dY ⟨rfl,h1,h2,⟨v,hv,h3⟩,h4⟩)
theorem aiy (n h:Tx)(hd:de.length<=1000)(d:Int):Pe (kY n d h arr rks de) λ p=>p=de++[(n,(d,h))]/\(0<=d/\d<=9999)/\(∃ v,dget arr n=some v/\v<=d)/\(∃ v,dget arr h=some v/\v<=d)/\dget de n=none/\dget de h=none/\h≠n:=by
 unfold kY;refine au (iJ _ _ _) λ _ h1=>au (sH n) λ _ ⟨v,hv⟩=>au (sH h) λ _ ⟨u,hu⟩=>au (uN hv d) λ _ h3=>au (uN hu d) λ _ h4=>?_
 cases e1:dget de n with
 | some z=>rw[if_pos (by simp)];exact lZ
 | none =>
  rw[if_neg (by simp)];refine tK (λ _=>lZ) λ c=>sG (szl _ (by omega)) (dY ⟨by rw[vO e1],h1,⟨v,hv,h3⟩,⟨u,hu,h4⟩,rfl,?_,?_⟩)
  ·simp only[Bool.or_eq_false_iff]at c
   cases e2:dget de h with
   | none=>rfl
   | some z=>rw[e2]at c;cases c.2
  ·simp only[Bool.or_eq_false_iff]at c
   exact of_decide_eq_false c.1
end
section
variable {pe:FolkT}{br:List Oath}{pa:List (Tp3 Int EvU (Option Int))}{mo:List (MoU×(Option Int))}{tr:List Suit}{td:List Int}{pn:Dt Tx Int}{to:List DeedT}
theorem mj:Pe (aV pe br pa mo tr td pn to) λ _=>to.length < 400:=by
 unfold aV;exact tK (λ _=>lZ) λ h=>dY (by have:=of_decide_eq_false h;omega)
theorem mY (xs:List Tx):Pe (aX xs pe br pa mo tr td pn to) λ _=>∀ x∈xs,∃ v,dget pe.arr x=some v:=by
 unfold aX;exact au (tL (R:=λ x=>∃ v,dget pe.arr x=some v) λ x _=>au (sH x) λ _ h=>dY h) λ _ h=>dY h
theorem lu {xs:List Tx}(hk:∀ x∈xs,∃ v,dget pe.arr x=some v)(ss:List Int)(d:Int):Pe (aU xs ss d pe br pa mo tr td pn to) λ _=>(∀ x∈xs,∃ v,dget pe.arr x=some v/\v<=d)/\∀ s∈ss,s<=d:=by
 unfold aU;refine au (tL (R:=λ x=>∃ v,dget pe.arr x=some v/\v<=d) λ x hx=>?_) λ _ h1=>au (tL (R:=λ s=>s<=d) λ s _=>?_) λ _ h2=>dY ⟨h1,h2⟩
 ·obtain⟨v,hv⟩:=hk x hx;exact au (uN hv d) λ _ h=>dY ⟨v,hv,h⟩
 ·exact tK (λ _=>lZ) λ h=>dY (by have:=of_decide_eq_false h;omega)
theorem mZ (xs:List Tx)(d:Int):Pe (aY xs d pe br pa mo tr td pn to) λ _=>∀ x∈xs,deadB pe.des x d=false:=by
 unfold aY;exact au (tL (R:=λ x=>deadB pe.des x d=false) λ x _=>au (acg x d) λ _ h=>dY h) λ _ h=>dY h
theorem ach (t:Int):Pe (dh t pe br pa mo tr td pn to) λ _=>0<=t/\t < br.length:=by
 unfold dh;refine tK (λ _=>lZ) λ h=>dY ?_
 simp only[Bool.or_eq_false_iff,decide_eq_false_iff_not]at h
 omega
theorem sJ {us:List Suit}(hs:SOk us):(fQ us).Post λ apz=>Settles us no0 apz:=by
 unfold fQ;refine cQ (qP hs [] (by simp)) ?_;rintro⟨apz,m⟩ ⟨h,_,_⟩;exact bM h
def fswn (us:List Suit)(pn:Dt Tx Int)(apz:List Bool):List Tx:=(enT 0 us).filterMap λ x=>if apz[x.1.toNat]?.getD false=true then(match x.2.d with
 | some k=>if(dget pn k.2).getD 0<=x.1 then some k.2 else none
 | none=>none) else none
theorem afm (hs:SOk tr){apz:List Bool}(ht:fQ tr=.ok apz)(hl:apz.length=tr.length):iw pe br pa mo tr td pn to=.ok (fswn tr pn apz):=by
 have hlen:=hs.len
 unfold iw;rw[ht,T.ok_bind]
 have key:∀ (l:List (Int×Suit)) (acc:List Tx),acc.length+l.length<=1000->(∀ x∈l,∃ j:Nat,x.1=(j:Int)/\j < apz.length)->(T.forM l acc (λ(i2:(Int×Suit)) names4=>(((T.ofO (atI apz i2.1)).bind λ x5 =>
 if x5=true then(if(Option.isSome i2.2.d)=true then((T.ofO i2.2.d).bind λ u6 =>
 if(decide (((dget pn u6.2).getD (0:Int))<=i2.1))=true then(T.gd (names4.length < sizeLine) <|
 .ok (names4++[u6.2])) else(.ok names4)) else(.ok names4)) else(.ok names4)):T Empty ((List Tx)))))=.ok (acc++l.filterMap λ x=>if apz[x.1.toNat]?.getD false=true then(match x.2.d with
 | some k=>if(dget pn k.2).getD 0<=x.1 then some k.2 else none
 | none=>none) else none):=by
  intro l
  induction l with
  | nil=>intro acc _ _;rw[List.filterMap_nil,List.append_nil];rfl
  | cons x l ih =>
   intro acc hal hx;rw[List.length_cons]at hal;obtain⟨j,hj,hjl⟩:=hx x List.mem_cons_self
   have hx2:∀ y∈l,∃ j:Nat,y.1=(j:Int)/\j < apz.length:=λ y hy=>hx y (List.mem_cons_of_mem _ hy)
   rw[lD,hj,lN,List.getElem?_eq_getElem hjl,aa,List.filterMap_cons,hj,Int.toNat_natCast,List.getElem?_eq_getElem hjl]
   have skip:∀ q:T Empty (List Tx),q=.ok acc->(q.bind λ v'=>T.forM l v' _)=.ok (acc++l.filterMap _):=λ q e=>by rw[e,T.ok_bind];exact ih acc (by omega) hx2
   dsimp only[Option.getD_some]
   cases hb:apz[j] with
   | false=>exact skip _ rfl
   | true =>
    simp only[↓reduceIte]
    cases hd:x.2.d with
    | none =>
     simp only[Option.isSome_none,Bool.false_eq_true,↓reduceIte]
     exact skip _ rfl
    | some k =>
     simp only[Option.isSome_some,↓reduceIte]
     rw[aa]
     by_cases hc:(dget pn k.2).getD 0<=(j:Int)
     ·rw[if_pos (decide_eq_true hc),if_pos hc,T.gd_of (szl _ (by omega)),T.ok_bind]
      dsimp only
      rw[ih _ (by rw[List.length_append,List.length_singleton];omega) hx2,List.append_assoc]
      rfl
     ·rw[if_neg (by rw[decide_eq_true_eq];exact hc),if_neg hc];exact skip _ rfl
 rw[key _ _ (by rw[yC];simp;omega) (λ x hx=>by
  obtain⟨j,h1,h2⟩:=akH hx
  exact⟨j,h1,by rw[hl];exact(List.getElem?_eq_some_iff.mp h2).1⟩),T.ok_bind]
 rfl
theorem yL (hs:SOk tr)(o p:List Tx):Pe (cH o p pe br pa mo tr td pn to) λ _=>to.length < 400/\tr.length < 60/\o.length<=12/\p.length<=12/\(o++p).Nodup/\∃ apz,fQ tr=.ok apz/\∀ x∈o++p,x∉fswn tr pn apz:=by
 unfold cH;refine au mj λ _ h0=>tK (λ _=>lZ) λ h1=>?_
 simp only[Bool.or_eq_false_iff,decide_eq_false_iff_not]at h1
 have l1:o.length<=12:=by omega
 have l2:p.length<=12:=by omega
 have hc:catT o p=some (o++p):=cA (by omega)
 have hls:aba (o++p)=some (ddN (o++p):Int):=if_pos (by rw[List.length_append];omega)
 rw[hc,aa,hls,aa,aa];show Pe (T.bind (T.ok _) _) _;rw[T.ok_bind];refine tK (λ _=>lZ) λ h2=>?_
 have h2:=of_decide_eq_false h2
 have hnd:(o++p).Nodup:=(yE _).mp (by have:=aix (o++p);omega)
 obtain⟨apz,e1,e2⟩:=sJ hs;rw[afm hs e1 e2.len,T.up_ok,T.ok_bind,aa];show Pe (T.bind (T.ok _) _) _;rw[T.ok_bind];refine au (tL (R:=λ x=>x∉fswn tr pn apz) λ x _=>?_) λ _ h3=>dY ⟨h0,by omega,l1,l2,hnd,apz,e1,h3⟩;refine tK (λ _=>lZ) λ h=>dY λ z=>?_;rw[(fW _ _).mpr z]at h
 cases h
theorem ahW (hs:SOk tr)(k:Int)(n:Tx):Pe (mX tr k n) λ _=>∃ (j:Nat) (w:Suit),k=(j:Int)/\tr[j]?=some w/\n∈namesOf w:=by
 unfold mX
 by_cases hk:k < 0∨(tr.length:Int)<=k
 ·rw[aai hk];exact lZ
 ·obtain⟨j,rfl⟩:=Int.eq_ofNat_of_zero_le (show 0<=k by omega)
  have hj:j < tr.length:=by omega
  have hw:tr[j]?=some tr[j]:=List.getElem?_eq_getElem hj
  have hsz:=hs.sz (List.getElem_mem hj)
  rw[yI hw,T.ok_bind,cA (by omega),aa,ab6 (by rw[List.length_append];omega),T.ok_bind];refine tK (λ _=>lZ) λ h=>dY ⟨j,_,rfl,hw,?_⟩;rw[Bool.not_eq_false',fW,List.filter_eq_self.mpr λ _ _=>rfl]at h;exact h
end
section
variable {ds:List Wd}{m:MootT}
theorem MInv.len (h:MInv ds m):m.aps.arr.length<=ds.length/\m.aps.rks.length<=ds.length/\m.apt.length<=ds.length/\m.apw.length<=ds.length/\m.apx.length=m.apw.length/\m.apz.length=ds.length:=by
 refine⟨?_,?_,?_,?_,?_,?_⟩
 ·rw[h.arr];exact List.length_filterMap_le _ _
 ·rw[h.rks];exact List.length_filterMap_le _ _
 ·rw[h.br];exact List.length_filterMap_le _ _
 ·rw[h.tl];exact List.length_filterMap_le _ _
 ·rw[h.tc,h.tl,List.length_map]
 ·rw[h.apz,List.length_map]
theorem MInv.wgt_ok (h:MInv ds m){n:Tx}{v d:Int}(hv:dget m.aps.arr n=some v)(hvd:v<=d)(hd:d<=9999):cY n d m.aps.arr m.aps.rks m.aps.des=.ok (wgt ds n d)/\1<=wgt ds n d/\wgt ds n d<=1000/\GoodT n:=by
 have hm:=iY hv
 obtain⟨g1,g2⟩:=h.ag _ hm;obtain⟨w,hw⟩:=h.cr _ hm
 dsimp only at g1 g2 hw
 refine⟨?_,?_⟩
 ·rw[amW hv ⟨by omega,hd⟩ hvd,h.rks]
  rfl
 ·unfold wgt;rw[←h.rks]
  have:=akK (d:=d) h.rk0 ⟨w,hw⟩ hvd
  exact⟨this.1,this.2,g1⟩
theorem abd (h:MInv ds m){d x:Int}{o p:List Tx}{nm:Option (Int×Tx)}(hk:∀ y∈o++p,∃ v,dget m.aps.arr y=some v/\v<=d)(hd:d<=9999)(ho:o.length<=12)(hp:p.length<=12):Pe (eZ d x o p nm m.aps m.apt m.apu m.apv m.apw m.apx m.apy m.apz) λ s=>s=suitD ds ⟨d,x,o,p,nm⟩/\x<=sumW (suitD ds ⟨d,x,o,p,nm⟩).a:=by
 unfold eZ
 have one:∀ l:List Tx,(∀ y∈l,y∈o++p)->l.length<=12->(T.lcs l (λ(i1:Tx)=>(((cY i1 d m.aps.arr m.aps.rks m.aps.des).bind λ r3 =>
 .ok (some (i1,r3))):T Unit (Option Oath))):T Unit (List Oath))=.ok (l.map λ n=>(n,wgt ds n d)):=by
  intro l hl hl2
  rw[ab7 (g:=λ n=>some (n,wgt ds n d)) (by omega) (λ y hy=>by
   obtain⟨v,hv,hvd⟩:=hk y (hl y hy)
   rw[(h.wgt_ok hv hvd hd).1,T.ok_bind])]
  rw[show(λ n=>some (n,wgt ds n d))=some∘(λ n:Tx=>((n,wgt ds n d):Oath)) from rfl,List.filterMap_eq_map]
 rw[one o (λ y hy=>List.mem_append_left _ hy) ho,T.ok_bind,one p (λ y hy=>List.mem_append_right _ hy) hp,T.ok_bind,yx _ (by rw[List.length_map];omega),T.up_ok,T.ok_bind];exact tK (λ _=>lZ) λ hq=>dY ⟨rfl,by have:=of_decide_eq_false hq;exact Int.not_lt.mp this⟩
theorem MInv.plain (h:MInv ds m){e:Wd}(h1:e.come?=none)(h2:e.rank?=none)(h3:e.bring?=none)(h4:e.case?=none){de:Des}{pn:Dt Tx Int}{pa:List (Tp3 Int EvU (Option Int))}{mo:List (MoU×(Option Int))}
  (k1:de.length<=ds.length+1) (k2:pn.length<=ds.length+1) (k3:pa.length<=ds.length+1) (k4:mo.length<=ds.length+1):MInv (ds++[e]) ⟨⟨m.aps.arr,m.aps.rks,de⟩,m.apt,pa,mo,m.apw,m.apx,pn,m.apz++[e.t]⟩:=by
 have ll:(ds++[e]).length=ds.length+1:=by simp
 refine⟨?_,?_,h.nd,h.ag,?_,h.rk0,h.cr,by rw[ll];exact k1,by rw[ll];exact k2,?_,by rw[ll];exact k3,by rw[ll];exact k4,h.tr,?_,?_,h.wt⟩
 ·rw[List.map_append,←h.apz];rfl
 ·rw[du,h1,←h.arr];simp
 ·rw[du,h2,←h.rks];simp
 ·rw[du,h3,←h.br];simp
 ·rw[du,h4,List.map_append,←h.tc];simp
 ·rw[du,h4,List.length_append,←h.tl];simp
theorem MInv.cased (h:MInv ds m){e:Wd}{c:Cs}(h1:e.come?=none)(h2:e.rank?=none)(h3:e.bring?=none)(h4:e.case?=some c){pa:List (Tp3 Int EvU (Option Int))}{mo:List (MoU×(Option Int))}
  (k3:pa.length<=ds.length+1) (k4:mo.length<=ds.length+1) (hk:∀ y∈c.apK++c.apJ,∃ v,dget m.aps.arr y=some v/\v<=c.day) (hd:c.day<=9999) (ho:c.apK.length<=12) (hp:c.apJ.length<=12) (hnd:(c.apK++c.apJ).Nodup) (hx:1<=c.need/\c.need<=12000) (hnm:aky m.apw c.named) (hl:m.apw.length < 60) (hwt:c.need<=sumW (suitD ds c).a) :
  MInv (ds++[e]) ⟨m.aps,m.apt,pa,mo,m.apw++[suitD ds c],m.apx++[c.day],m.apy,m.apz++[e.t]⟩:=by
 have ll:(ds++[e]).length=ds.length+1:=by simp
 have hs:=h.tr
 have ab:(suitD ds c).a++(suitD ds c).b=(c.apK++c.apJ).map λ n=>(n,wgt ds n c.day):=by rw[List.map_append];rfl
 refine⟨?_,?_,h.nd,h.ag,?_,h.rk0,h.cr,by rw[ll];exact Nat.le_succ_of_le h.dl,by rw[ll];exact Nat.le_succ_of_le h.pn,?_,by rw[ll];exact k3,by rw[ll];exact k4,⟨?_,λ u hu=>?_,λ i u k hi hk2=>?_⟩,?_,?_,λ u hu=>?_⟩
 ·rw[List.map_append,←h.apz];rfl
 ·rw[du,h1,←h.arr];simp
 ·rw[du,h2,←h.rks];simp
 ·rw[du,h3,←h.br];simp
 ·rw[List.length_append,List.length_singleton];omega
 ·rcases List.mem_append.mp hu with hu | hu
  ·exact hs.side u hu
  ·rw[List.mem_singleton]at hu
   subst hu
   refine⟨⟨?_,λ z hz=>?_⟩,?_,hx⟩
   ·rw[ab,List.map_map,show((λ x:Oath=>x.1)∘λ n:Tx=>((n,wgt ds n c.day):Oath))=id from rfl,List.map_id];exact hnd
   ·rw[ab]at hz;obtain⟨y,hy,rfl⟩:=List.mem_map.mp hz;obtain⟨v,hv,hvd⟩:=hk y hy;obtain⟨_,w1,w2,w3⟩:=h.wgt_ok hv hvd hd;exact⟨w1,w2,w3⟩
   ·rw[ab,List.length_map,List.length_append];omega
 ·by_cases hil:i < m.apw.length
  ·rw[List.getElem?_append_left hil]at hi;obtain⟨j,w,q1,q2,q3,q4⟩:=hs.named i u k hi hk2;exact⟨j,w,q1,q2,by rw[List.getElem?_append_left (by omega)];exact q3,q4⟩
  ·rw[List.getElem?_append_right (by omega)]at hi
   have hi0:i - m.apw.length=0:=by
    have:=(List.getElem?_eq_some_iff.mp hi).1
    simp at this
    omega
   rw[hi0]at hi
   have hu:suitD ds c=u:=Option.some.inj hi
   subst hu
   obtain⟨j,w,q1,q2,q3⟩:=hnm k hk2
   have hj:=(List.getElem?_eq_some_iff.mp q2).1
   exact⟨j,w,q1,by omega,by rw[List.getElem?_append_left hj];exact q2,q3⟩
 ·rw[du,h4,List.map_append,←h.tc];rfl
 ·rw[du,h4,List.length_append,List.length_append,←h.tl];rfl
 ·rcases List.mem_append.mp hu with hu | hu
  ·exact h.wt u hu
  ·rw[List.mem_singleton]at hu
   subst hu
   exact hwt
abbrev Dn (ds:List Wd)(m:MootT)(e:Wd)(r:Option Int×MootT):Prop:=r=(resD m e,eff ds m e)/\MInv (ds++[e]) (eff ds m e)
theorem akN (h:MInv ds m)(hl:ds.length<=900){n:Tx}(hn:n.cs.length<=100000)(d w:Int):Pe (dN m n d w) λ r=>r=eff ds m (.come n d w)/\MInv (ds++[.come n d w]) (eff ds m (.come n d w)):=by
 obtain⟨l1,l2,l3,l4,l5,l6⟩:=h.len;unfold dN oG;rw[T.ok_bind,T.up_ok,T.ok_bind];refine au (akM hn (by dsimp only;omega) (by dsimp only;omega) d w) ?_;rintro _ ⟨rfl,g,hnn,hd,hw⟩;refine au mj λ _ hr=>?_;rw[T.gd_of (szl _ (by dsimp only;omega)),T.up_ok,T.ok_bind];refine dY ⟨rfl,?_⟩
 have ll:(ds++[Wd.come n d w]).length=ds.length+1:=by simp
 refine⟨?_,?_,?_,?_,?_,?_,?_,by rw[ll];exact Nat.le_succ_of_le h.dl,by rw[ll];exact Nat.le_succ_of_le h.pn,?_,by rw[ll];exact Nat.le_succ_of_le h.pa,by rw[ll];exact Nat.le_succ_of_le h.mo,h.tr,?_,?_,h.wt⟩
 ·rw[List.map_append,←h.apz];rfl
 ·rw[du,←h.arr];rfl
 ·show((m.aps.arr++[(n,d)]).map Prod.fst).Nodup;rw[List.map_append,List.nodup_append];refine⟨h.nd,by simp,λ a ha b hb z=>?_⟩
  simp at hb
  subst hb
  subst z
  exact hnn ha
 ·intro p hp;rcases List.mem_append.mp hp with hp | hp
  ·exact h.ag p hp
  ·rw[List.mem_singleton]at hp
   subst hp
   exact⟨g,hd.1⟩
 ·rw[du,←h.rks];rfl
 ·intro r hr;rcases List.mem_append.mp hr with hr | hr
  ·exact h.rk0 r hr
  ·rw[List.mem_singleton]at hr
   subst hr
   exact⟨hd.1,hw.1,hw.2⟩
 ·intro p hp;rcases List.mem_append.mp hp with hp | hp
  ·obtain⟨w',hw'⟩:=h.cr p hp;exact⟨w',List.mem_append_left _ hw'⟩
  ·rw[List.mem_singleton]at hp
   subst hp
   exact⟨w,List.mem_append_right _ (List.mem_singleton.mpr rfl)⟩
 ·rw[du,←h.br];show m.apt=m.apt++[];simp
 ·rw[du,List.map_append,←h.tc];show m.apx=m.apx++[];simp
 ·rw[du,List.length_append,←h.tl];rfl
theorem akO (h:MInv ds m)(hl:ds.length<=900)(n:Tx)(d w:Int):Pe (jo m n d w) λ r=>r=eff ds m (.rise n d w)/\MInv (ds++[.rise n d w]) (eff ds m (.rise n d w)):=by
 obtain⟨l1,l2,l3,l4,l5,l6⟩:=h.len;unfold jo oG;rw[T.ok_bind,T.up_ok,T.ok_bind];refine au (afl n (by dsimp only;omega) d w) ?_;rintro _ ⟨rfl,hd,hw,_,_⟩;refine au mj λ _ hr=>?_;rw[T.gd_of (szl _ (by dsimp only;omega)),T.up_ok,T.ok_bind];refine dY ⟨rfl,?_⟩
 have ll:(ds++[Wd.rise n d w]).length=ds.length+1:=by simp
 refine⟨?_,?_,h.nd,h.ag,?_,?_,?_,by rw[ll];exact Nat.le_succ_of_le h.dl,by rw[ll];exact Nat.le_succ_of_le h.pn,?_,by rw[ll];exact Nat.le_succ_of_le h.pa,by rw[ll];exact Nat.le_succ_of_le h.mo,h.tr,?_,?_,h.wt⟩
 ·rw[List.map_append,←h.apz];rfl
 ·rw[du,←h.arr];show m.aps.arr=m.aps.arr++[];simp
 ·rw[du,←h.rks];rfl
 ·intro r hr;rcases List.mem_append.mp hr with hr | hr
  ·exact h.rk0 r hr
  ·rw[List.mem_singleton]at hr
   subst hr
   exact⟨hd.1,hw.1,hw.2⟩
 ·intro p hp;obtain⟨w',hw'⟩:=h.cr p hp;exact⟨w',List.mem_append_left _ hw'⟩
 ·rw[du,←h.br];show m.apt=m.apt++[];simp
 ·rw[du,List.map_append,←h.tc];show m.apx=m.apx++[];simp
 ·rw[du,List.length_append,←h.tl];rfl
theorem amX (h:MInv ds m)(hl:ds.length<=900)(n:Tx)(d:Int)(x:Tx):Pe (fY m n d x) λ r=>r=eff ds m (.die n d x)/\MInv (ds++[.die n d x]) (eff ds m (.die n d x)):=by
 obtain⟨l1,l2,l3,l4,l5,l6⟩:=h.len
 have:=h.dl
 unfold fY oG;rw[T.ok_bind,T.up_ok,T.ok_bind];refine au (aiy n x (by dsimp only;omega) d) ?_;rintro _ ⟨rfl,hd,_,_,_,_,_⟩;refine au mj λ _ hr=>?_;rw[T.gd_of (szl _ (by dsimp only;omega)),T.up_ok,T.ok_bind];exact dY ⟨rfl,h.plain (e:=.die n d x) rfl rfl rfl rfl (by rw[List.length_append];simp;omega) (Nat.le_succ_of_le h.pn) (Nat.le_succ_of_le h.pa) (Nat.le_succ_of_le h.mo)⟩
end
section
variable {ds:List Wd}{m:MootT}
theorem ac2 (h:MInv ds m)(hl:ds.length<=900)(n:Tx):Pe (jd n m.aps m.apt m.apu m.apv m.apw m.apx m.apy m.apz) λ r=>r=(dput m.apy n ((m.apw.length:Nat):Int),m.apz++[Wd.t (.penance n)])/\MInv (ds++[.penance n]) (eff ds m (.penance n)):=by
 obtain⟨l1,l2,l3,l4,l5,l6⟩:=h.len
 have:=h.pn
 unfold jd pq;refine au (sH n) λ _ _=>?_;rw[T.up_ok,T.ok_bind];refine tK (λ _=>lZ) λ _=>au mj λ _ hr=>sG (szl _ (by omega)) (sG (szl _ (by omega)) (dY ⟨rfl,?_⟩));exact h.plain (e:=.penance n) rfl rfl rfl rfl (Nat.le_succ_of_le h.dl) (by have:=ab9 m.apy n ((m.apw.length:Nat):Int);omega) (Nat.le_succ_of_le h.pa) (Nat.le_succ_of_le h.mo)
theorem ahX (h:MInv ds m)(hl:ds.length<=900)(n:Tx)(d:Int):Pe (cR n d m.aps m.apt m.apu m.apv m.apw m.apx m.apy m.apz) λ r=>r=(((m.apt.length:Nat):Int),m.apt++[(n,d)],m.apz++[Wd.t (.bring n d)])/\MInv (ds++[.bring n d]) (eff ds m (.bring n d)):=by
 obtain⟨l1,l2,l3,l4,l5,l6⟩:=h.len;unfold cR;refine au (iJ _ _ _) λ _ h1=>au (mY _) λ _ h2=>au (lu h2 _ _) λ _ h3=>au (mZ _ _) λ _ h4=>au mj λ _ h5=>tK (λ _=>lZ) λ h6=>sG (szl _ (by omega)) (sG (szl _ (by omega)) (dY ⟨?_,?_⟩))
 ·rw[List.length_append,List.length_singleton]
  congr 1
  omega
 ·have ll:(ds++[Wd.bring n d]).length=ds.length+1:=by simp
  refine⟨?_,?_,h.nd,h.ag,?_,h.rk0,h.cr,by rw[ll];exact Nat.le_succ_of_le h.dl,by rw[ll];exact Nat.le_succ_of_le h.pn,?_,by rw[ll];exact Nat.le_succ_of_le h.pa,by rw[ll];exact Nat.le_succ_of_le h.mo,h.tr,?_,?_,h.wt⟩
  ·rw[List.map_append,←h.apz];rfl
  ·rw[du,←h.arr];show m.aps.arr=m.aps.arr++[];simp
  ·rw[du,←h.rks];show m.aps.rks=m.aps.rks++[];simp
  ·rw[du,←h.br];rfl
  ·rw[du,List.map_append,←h.tc];show m.apx=m.apx++[];simp
  ·rw[du,List.length_append,←h.tl];rfl
theorem akP (h:MInv ds m)(hl:ds.length<=900)(t:Int)(a b:Tx)(d:Int):Pe (lF t a b d m.aps m.apt m.apu m.apv m.apw m.apx m.apy m.apz) λ r=>r=(m.apu++[Tp3.mk t (Tp4.mk d (tx "given") (some a) b) none],m.apz++[Wd.t (.give t a b d)])/\MInv (ds++[.give t a b d]) (eff ds m (.give t a b d)):=by
 obtain⟨l1,l2,l3,l4,l5,l6⟩:=h.len
 have:=h.pa
 unfold lF;refine au (iJ _ _ _) λ _ h1=>au (mY _) λ _ h2=>au (ach _) λ _ h6=>?_;rw[pZ h6.1 h6.2,aa];refine au (lu h2 _ _) λ _ h3=>au (mZ _ _) λ _ h4=>au mj λ _ h5=>sG (szl _ (by omega)) (sG (szl _ (by omega)) (dY ⟨rfl,?_⟩));exact h.plain (e:=.give t a b d) rfl rfl rfl rfl (Nat.le_succ_of_le h.dl) (Nat.le_succ_of_le h.pn) (by rw[List.length_append];simp;omega) (Nat.le_succ_of_le h.mo)
theorem amY (h:MInv ds m)(hl:ds.length<=900)(a b:Tx)(c d:Int):Pe (jD a b c d m.aps m.apt m.apu m.apv m.apw m.apx m.apy m.apz) λ r=>r=(m.apv++[(Tp4.mk d b a c,none)],m.apz++[Wd.t (.pay a b c d)])/\MInv (ds++[.pay a b c d]) (eff ds m (.pay a b c d)):=by
 obtain⟨l1,l2,l3,l4,l5,l6⟩:=h.len
 have:=h.mo
 unfold jD;refine au (iJ _ _ _) λ _ h0=>au (iJ _ _ _) λ _ h1=>au (mY _) λ _ h2=>au (lu h2 _ _) λ _ h3=>au (mZ _ _) λ _ h4=>au mj λ _ h5=>sG (szl _ (by omega)) (sG (szl _ (by omega)) (dY ⟨rfl,?_⟩));exact h.plain (e:=.pay a b c d) rfl rfl rfl rfl (Nat.le_succ_of_le h.dl) (Nat.le_succ_of_le h.pn) (Nat.le_succ_of_le h.pa) (by rw[List.length_append];simp;omega)
theorem keep_ok (h:MInv ds m)(hl:ds.length<=900)(s:Suit)(d:Int){z:DeedT}(hz:z.ps.length<=1000):fM s d z m.aps m.apt m.apu m.apv m.apw m.apx m.apy m.apz=.ok (((m.apw.length:Nat):Int),m.apw++[s],m.apx++[d],m.apz++[z]):=by
 obtain⟨l1,l2,l3,l4,l5,l6⟩:=h.len;unfold fM wZ;rw[T.gd_of (szl _ (by omega)),T.gd_of (szl _ (by omega)),T.gd_of (Nat.le_of_lt (szl _ (by omega))),T.ok_bind,T.gd_of (szl _ (by omega)),List.length_append,List.length_singleton]
 congr 2
 omega
theorem yM {α:Type}{xs:List α}{P:α->Prop}(h:∀ y∈xs,P y){l:List α}(hl:∀ y∈l,y∈xs):∀ y∈l,P y:=λ y hy=>h y (hl y hy)
theorem ahY (h:MInv ds m)(hl:ds.length<=900)(a:Tx)(t d x:Int){o p:List Tx}(ho:o.length<=1000)(hp:p.length<=1000):Pe (jZ a t d x o p m.aps m.apt m.apu m.apv m.apw m.apx m.apy m.apz) λ r=>r=(((m.apw.length:Nat):Int),m.apu++[Tp3.mk t (Tp4.mk d (tx "won") none a) (some ((m.apw.length:Nat):Int))],m.apw++[suitD ds ⟨d,x,o,p,none⟩],m.apx++[d],m.apz++[Wd.t (.claim a t d x o p)])/\MInv (ds++[.claim a t d x o p]) (eff ds m (.claim a t d x o p)):=by
 obtain⟨l1,l2,l3,l4,l5,l6⟩:=h.len
 have:=h.pa
 unfold jZ;rw[cA (by simp;omega),aa,cA (by simp;omega),aa,T.nv_ok,T.ok_bind]
 have hsub:∀ y∈o++p,y∈([a]:List Tx)++o++p:=λ y hy=>by
  rw[List.append_assoc];exact List.mem_append_right _ hy
 refine au (iJ _ _ _) λ _ h0=>au (iJ _ _ _) λ _ h1=>au (mY _) λ _ h2=>au (ach _) λ _ h6=>?_;rw[pZ h6.1 h6.2,aa];refine au (lu h2 _ _) λ _ h3=>au (mZ _ _) λ _ h4=>au (yL h.tr o p) λ _ ⟨s1,s2,s3,s4,s5,_⟩=>au (abd h (yM h3.1 hsub) h0.2 s3 s4) ?_;rintro _ ⟨rfl,hwt⟩;rw[keep_ok h hl _ _ (by simp),T.up_ok,T.ok_bind];refine sG (szl _ (by omega)) (dY ⟨rfl,?_⟩);exact h.cased (e:=.claim a t d x o p) (c:=⟨d,x,o,p,none⟩) rfl rfl rfl rfl (by rw[List.length_append];simp;omega) (Nat.le_succ_of_le h.mo) (yM h3.1 hsub) h0.2 s3 s4 s5 h1 (λ k hk=>by cases hk) s2 hwt
theorem ac3 (h:MInv ds m)(hl:ds.length<=900)(a b:Tx)(c d x:Int){o p:List Tx}(ho:o.length<=1000)(hp:p.length<=1000):Pe (je a b c d x o p m.aps m.apt m.apu m.apv m.apw m.apx m.apy m.apz) λ r=>r=(((m.apw.length:Nat):Int),m.apv++[(Tp4.mk d b a c,some ((m.apw.length:Nat):Int))],m.apw++[suitD ds ⟨d,x,o,p,none⟩],m.apx++[d],m.apz++[Wd.t (.wergild a b c d x o p)])/\MInv (ds++[.wergild a b c d x o p]) (eff ds m (.wergild a b c d x o p)):=by
 obtain⟨l1,l2,l3,l4,l5,l6⟩:=h.len
 have:=h.mo
 unfold je;rw[cA (by simp;omega),aa,cA (by simp;omega),aa,T.nv_ok,T.ok_bind]
 have hsub:∀ y∈o++p,y∈([a,b]:List Tx)++o++p:=λ y hy=>by
  rw[List.append_assoc];exact List.mem_append_right _ hy
 refine au (iJ _ _ _) λ _ hm=>au (iJ _ _ _) λ _ h0=>au (iJ _ _ _) λ _ h1=>au (mY _) λ _ h2=>?_;refine au (lu h2 _ _) λ _ h3=>au (mZ _ _) λ _ h4=>au (yL h.tr o p) λ _ ⟨s1,s2,s3,s4,s5,_⟩=>au (abd h (yM h3.1 hsub) h0.2 s3 s4) ?_;rintro _ ⟨rfl,hwt⟩;rw[keep_ok h hl _ _ (by simp),T.up_ok,T.ok_bind];refine sG (szl _ (by omega)) (dY ⟨rfl,?_⟩);exact h.cased (e:=.wergild a b c d x o p) (c:=⟨d,x,o,p,none⟩) rfl rfl rfl rfl (Nat.le_succ_of_le h.pa) (by rw[List.length_append];simp;omega) (yM h3.1 hsub) h0.2 s3 s4 s5 h1 (λ k hk=>by cases hk) s2 hwt
theorem afn {us:List Suit}(hs:SOk us):∃ l,pN us=.ok l:=by
 obtain⟨apz,_,ht⟩:=aae hs;obtain⟨ol,_,ho⟩:=qj hs;exact⟨_,aag hs ht ho⟩
theorem afo (h:MInv ds m)(hl:ds.length<=900)(k:Int)(n:Tx)(d x:Int){o p:List Tx}(ho:o.length<=1000)(hp:p.length<=1000):Pe (jE k n d x o p m.aps m.apt m.apu m.apv m.apw m.apx m.apy m.apz) λ r=>r=(((m.apw.length:Nat):Int),m.apw++[suitD ds ⟨d,x,o,p,some (k,n)⟩],m.apx++[d],m.apz++[Wd.t (.accuse k n d x o p)])/\MInv (ds++[.accuse k n d x o p]) (eff ds m (.accuse k n d x o p)):=by
 obtain⟨l1,l2,l3,l4,l5,l6⟩:=h.len;unfold jE;rw[cA (by omega),aa,T.nv_ok,T.ok_bind];refine au (iJ _ _ _) λ _ h0=>au (iJ _ _ _) λ _ h1=>au (mY _) λ _ h2=>au (ahW h.tr k n) λ _ hsw=>?_;obtain⟨j,w,rfl,hj,hw⟩:=hsw
 have hjl:=(List.getElem?_eq_some_iff.mp hj).1
 rw[lN,List.getElem?_eq_getElem (by omega),aa];refine au (lu h2 _ _) λ _ h3=>au (mZ _ _) λ _ h4=>au (yL h.tr o p) λ _ ⟨s1,s2,s3,s4,s5,_⟩=>au (abd h h3.1 h0.2 s3 s4) ?_;rintro _ ⟨rfl,hwt⟩;obtain⟨bl,hb⟩:=afn h.tr;rw[hb,T.up_ok,T.ok_bind];refine tK (λ _=>lZ) λ _=>?_;rw[keep_ok h hl _ _ (by simp),T.up_ok,T.ok_bind];refine dY ⟨rfl,?_⟩
 exact h.cased (e:=.accuse j n d x o p) (c:=⟨d,x,o,p,some (j,n)⟩) rfl rfl rfl rfl (Nat.le_succ_of_le h.pa) (Nat.le_succ_of_le h.mo) h3.1 h0.2 s3 s4 s5 h1 (λ k hk=>by
  cases hk
  exact⟨j,w,rfl,hj,hw⟩) s2 hwt
end
section
variable {α:Type}
theorem at0 (a:α)(l:List α):atI (a::l) (0:Int)=some a:=lN _ 0
theorem at1 (a b:α)(l:List α):atI (a::b::l) (1:Int)=some b:=lN _ 1
theorem at2 (a b c:α)(l:List α):atI (a::b::c::l) (2:Int)=some c:=lN _ 2
theorem at3 (a b c d:α)(l:List α):atI (a::b::c::d::l) (3:Int)=some d:=lN _ 3
theorem at4 (a b c d e:α)(l:List α):atI (a::b::c::d::e::l) (4:Int)=some e:=lN _ 4
theorem at5 (a b c d e f:α)(l:List α):atI (a::b::c::d::e::f::l) (5:Int)=some f:=lN _ 5
theorem at6 (a b c d e f g:α)(l:List α):atI (a::b::c::d::e::f::g::l) (6:Int)=some g:=lN _ 6
theorem at7 (a b c d e f g h:α)(l:List α):atI (a::b::c::d::e::f::g::h::l) (7:Int)=some h:=lN _ 7
theorem unT (x:Tx):Un.toT (Un.t x)=some x:=rfl
theorem unI (x:Int):Un.toI (Un.i x)=some x:=rfl
theorem unL (x:List Tx):Un.toL (Un.l x)=some x:=rfl
end
section
variable {ds:List Wd}{m:MootT}
theorem qm {α β:Type}{t:T Unit α}{f:α->β}{P:α->Prop}{Q:β->Prop}(h:Pe t P)(hq:∀ a,P a->Q (f a)):Pe (t.bind λ a=>.ok (f a)) Q:=au h λ a ha=>dY (hq a ha)
theorem afp (h:MInv ds m)(hl:ds.length<=900){e:Wd}(hw:e.Wf):Pe (jy m e.t) (Dn ds m e):=by
 unfold jy jY
 cases e with
 | come n d w =>
  unfold Wd.t
  simp only[at0,at1,at2,at3,unT,unI,aa,T.nv_ok,T.ok_bind]
  rw[if_pos (by decide),if_pos (by decide)];refine qm (P:=Dn ds m (.come n d w)) (qm (akN h hl hw d w) λ a ha=>⟨by rw[ha.1];rfl,ha.2⟩) λ a ha=>ha
 | rise n d w =>
  unfold Wd.t
  simp only[at0,at1,at2,at3,unT,unI,aa,T.nv_ok,T.ok_bind]
  rw[if_pos (by decide),if_neg (by decide),if_pos (by decide)];refine qm (P:=Dn ds m (.rise n d w)) (qm (akO h hl n d w) λ a ha=>⟨by rw[ha.1];rfl,ha.2⟩) λ a ha=>ha
 | die n d x =>
  unfold Wd.t
  simp only[at0,at1,at2,at3,unT,unI,aa,T.nv_ok,T.ok_bind]
  rw[if_pos (by decide),if_neg (by decide),if_neg (by decide),if_pos (by decide)];refine qm (P:=Dn ds m (.die n d x)) (qm (amX h hl n d x) λ a ha=>⟨by rw[ha.1];rfl,ha.2⟩) λ a ha=>ha
 | penance n =>
  unfold Wd.t
  simp only[at0,at1,unT,unI,aa,T.nv_ok,T.ok_bind]
  rw[if_pos (by decide),if_neg (by decide),if_neg (by decide),if_neg (by decide),if_pos (by decide)];refine qm (P:=Dn ds m (.penance n)) (au (ac2 h hl n) λ a ha=>?_) λ a ha=>ha;rw[ha.1];exact dY ⟨rfl,ha.2⟩
 | bring n d =>
  unfold Wd.t
  simp only[at0,at1,at2,unT,unI,aa,T.nv_ok,T.ok_bind]
  rw[if_pos (by decide),if_neg (by decide),if_neg (by decide),if_neg (by decide),if_neg (by decide),if_pos (by decide)];refine qm (P:=Dn ds m (.bring n d)) (au (ahX h hl n d) λ a ha=>?_) λ a ha=>ha;rw[ha.1];exact dY ⟨rfl,ha.2⟩
 | give t a b d =>
  unfold Wd.t
  simp only[at0,at1,at2,at3,at4,unT,unI,aa,T.nv_ok,T.ok_bind]
  rw[if_pos (by decide),if_neg (by decide),if_neg (by decide),if_neg (by decide),if_neg (by decide),if_neg (by decide),if_pos (by decide)];refine qm (P:=Dn ds m (.give t a b d)) (au (akP h hl t a b d) λ a ha=>?_) λ a ha=>ha;rw[ha.1];exact dY ⟨rfl,ha.2⟩
 | pay a b c d =>
  unfold Wd.t
  simp only[at0,at1,at2,at3,at4,unT,unI,aa,T.nv_ok,T.ok_bind]
  rw[if_pos (by decide),if_neg (by decide),if_neg (by decide),if_neg (by decide),if_neg (by decide),if_neg (by decide),if_neg (by decide)];refine qm (P:=Dn ds m (.pay a b c d)) (au (amY h hl a b c d) λ a ha=>?_) λ a ha=>ha;rw[ha.1];exact dY ⟨rfl,ha.2⟩
 | claim a t d x o p =>
  unfold Wd.t
  simp only[at0,at1,at2,at3,at4,at5,at6,unT,unI,unL,aa,T.nv_ok,T.ok_bind]
  rw[if_neg (by decide),if_pos (by decide)];refine au (ahY h hl a t d x hw.1 hw.2) λ a ha=>?_;rw[ha.1];exact dY ⟨rfl,ha.2⟩
 | wergild a b c d x o p =>
  unfold Wd.t
  simp only[at0,at1,at2,at3,at4,at5,at6,at7,unT,unI,unL,aa,T.nv_ok,T.ok_bind]
  rw[if_neg (by decide),if_neg (by decide),if_pos (by decide)];refine au (ac3 h hl a b c d x hw.1 hw.2) λ a ha=>?_;rw[ha.1];exact dY ⟨rfl,ha.2⟩
 | accuse k n d x o p =>
  unfold Wd.t
  simp only[at0,at1,at2,at3,at4,at5,at6,at7,unT,unI,unL,aa,T.nv_ok,T.ok_bind]
  rw[if_neg (by decide),if_neg (by decide),if_neg (by decide)];refine au (afo h hl k n d x hw.1 hw.2) λ a ha=>?_;rw[ha.1];exact dY ⟨rfl,ha.2⟩
end
end Ty
namespace Ty
open PySem VS L2 Lw
section
variable {ds:List Wd}{m:MootT}{w:WorldT}
end
end Ty
namespace Ty
open PySem VS L2
section
variable {ds:List Wd}{m:MootT}{w:WorldT}
end
end Ty
noncomputable section
namespace Ty
open PySem VS L2
def Wd.di?:Wd->Option Di
 | .come n d w=>some (Tp4.mk (tx "come") n d (Itx.i w))
 | .rise n d w=>some (Tp4.mk (tx "rise") n d (Itx.i w))
 | .die n d h=>some (Tp4.mk (tx "die") n d (Itx.t h))
 | _=>none
def Wd.die?:Wd->Option (Tx×(Int×Tx))
 | .die n d h=>some (n,(d,h))
 | _=>none
section
variable {ds:List Wd}{m:MootT}{ns:List Tx}
end
section
variable {ds:List Wd}{m:MootT}{ns:List Tx}
end
end Ty
namespace Ty
open PySem PySem.Spec PyProof.Rows VS Lw L2
section
variable {α:Type}[Enc α][DecidableEq α][i:Sc α]
theorem aaj:∀ xs:List α,PyData.canLayAll0 (xs.map Enc.enc)=true
 | []=>by unfold PyData.canLayAll0;rfl
 | x::xs=>by
  rw[List.map_cons];unfold PyData.canLayAll0;rw[Sc.lay x,aaj xs]
  rfl
theorem ack:∀ xs:List α,PyData.depthAll (xs.map Enc.enc)<=i.dep
 | []=>by unfold PyData.depthAll;exact Nat.zero_le _
 | x::xs=>by
  rw[List.map_cons];unfold PyData.depthAll;exact Nat.max_le.mpr ⟨Sc.dp x,ack xs⟩
theorem amZ (h:i.dep<=64)(x:α):SeqAt.shaped (Enc.enc x)=true:=by
 unfold SeqAt.shaped;rw[Sc.lay x,Bool.true_and];exact decide_eq_true (Nat.le_trans (Sc.dp x) h)
theorem aiA (h:i.dep<=63)(ys:List α):SeqAt.shaped (PyData.list (ys.map Enc.enc))=true:=by
 unfold SeqAt.shaped
 have h1:PyData.canLay0 (.list (ys.map Enc.enc))=true:=by
  unfold PyData.canLay0;exact aaj ys
 have h2:PyData.depth (.list (ys.map Enc.enc))<=64:=by
  unfold PyData.depth
  have:=ack ys
  omega
 rw[h1,Bool.true_and];exact decide_eq_true h2
theorem afr (x:α):∀ ys:List α,((ys.map Enc.enc).any λ z=>PyData.eqv z (Enc.enc x))=memT x ys
 | []=>by simp[memT]
 | y::ys=>by
  rw[List.map_cons,List.any_cons,afr x ys,Sc.eqv];unfold memT
  by_cases h1:y=x
  ·simp[h1]
  ·have h2:¬ x=y:=λ z=>h1 z.symm
   simp[h1,h2]
theorem am0 (x:α)(ys:List α)(h:i.dep<=63:=by decide):dIn (Enc.enc x) (.list (ys.map Enc.enc))=some (.bool (memT x ys)):=by
 have ho:inOk (Enc.enc x) (ys.map Enc.enc):=.inr ⟨amZ (Nat.le_succ_of_le h) x,aiA h ys⟩
 unfold dIn;show(if inOk (Enc.enc x) (ys.map Enc.enc) then some ((ys.map Enc.enc).any λ z=>PyData.eqv z (Enc.enc x)) else none).map PyData.bool=_;rw[if_pos ho,afr]
 rfl
end
theorem am1:∀ x y:Un,PyData.eqv (Enc.enc x) (Enc.enc y)=decide (x=y)
 | .i n,.i m=>(Sh.eqv n m).trans (decide_eq_decide.mpr ⟨λ h=>by rw[h],λ h=>by cases h;rfl⟩)
 | .t n,.t m=>(Sh.eqv n m).trans (decide_eq_decide.mpr ⟨λ h=>by rw[h],λ h=>by cases h;rfl⟩)
 | .l n,.l m=>(Sh.eqv n m).trans (decide_eq_decide.mpr ⟨λ h=>by rw[h],λ h=>by cases h;rfl⟩)
 | .o,.o=>by show PyData.eqv .none .none=_;unfold PyData.eqv;rfl
 | .i n,.t m=>by show PyData.eqv (.int n) (.str m.s)=_;simp[PyData.eqv]
 | .i n,.l m=>by show PyData.eqv (.int n) (.list (m.map Enc.enc))=_;simp[PyData.eqv]
 | .i n,.o=>by show PyData.eqv (.int n) .none=_;simp[PyData.eqv]
 | .t n,.i m=>by show PyData.eqv (.str n.s) (.int m)=_;simp[PyData.eqv]
 | .t n,.l m=>by show PyData.eqv (.str n.s) (.list (m.map Enc.enc))=_;simp[PyData.eqv]
 | .t n,.o=>by show PyData.eqv (.str n.s) .none=_;simp[PyData.eqv]
 | .l n,.i m=>by show PyData.eqv (.list (n.map Enc.enc)) (.int m)=_;simp[PyData.eqv]
 | .l n,.t m=>by show PyData.eqv (.list (n.map Enc.enc)) (.str m.s)=_;simp[PyData.eqv]
 | .l n,.o=>by show PyData.eqv (.list (n.map Enc.enc)) .none=_;simp[PyData.eqv]
 | .o,.i m=>by show PyData.eqv .none (.int m)=_;simp[PyData.eqv]
 | .o,.t m=>by show PyData.eqv .none (.str m.s)=_;simp[PyData.eqv]
 | .o,.l m=>by show PyData.eqv .none (.list (m.map Enc.enc))=_;simp[PyData.eqv]
theorem am2:∀ x:Un,(Enc.enc x:D).canLay0=true
 | .i n=>Sh.lay n
 | .t n=>Sh.lay n
 | .l n=>Sh.lay n
 | .o=>by show PyData.canLay0 .none=true;unfold PyData.canLay0;rfl
theorem aoN:∀ x:Un,(Enc.enc x:D).depth<=1
 | .i n=>Nat.le_trans (Sh.dp n) (by decide)
 | .t n=>Nat.le_trans (Sh.dp n) (by decide)
 | .l n=>Nat.le_trans (Sh.dp n) (by decide)
 | .o=>by show PyData.depth .none<=1;unfold PyData.depth;exact Nat.zero_le _
instance:Sc Un:=⟨1,am2,aoN,am1⟩
instance {α β:Type}[Enc α][DecidableEq α][i:Sc α][Enc β][DecidableEq β][j:Sc β]:Sc (α×β) where
 dep:=max i.dep j.dep+1
 lay:=λ p=>by
  show PyData.canLay0 (.tuple [Enc.enc p.1,Enc.enc p.2])=true
  simp[PyData.canLay0,PyData.canLayAll0,Sc.lay p.1,Sc.lay p.2]
 dp:=λ p=>by
  show PyData.depth (.tuple [Enc.enc p.1,Enc.enc p.2])<=_
  have h1:=i.dp p.1
  have h2:=j.dp p.2
  simp only[PyData.depth,PyData.depthAll]
  omega
 eqv:=λ p q=>by
  show PyData.eqv (.tuple [Enc.enc p.1,Enc.enc p.2]) (.tuple [Enc.enc q.1,Enc.enc q.2])=_
  simp only[PyData.eqv,PyData.eqvAll,Sc.eqv,Bool.and_true]
  have e:decide (p=q)=decide (p.1=q.1/\p.2=q.2):=decide_eq_decide.mpr Prod.ext_iff
  rw[e]
  by_cases h1:p.1=q.1<;>by_cases h2:p.2=q.2<;>simp[h1,h2]
section
variable {α:Type}[Enc α][DecidableEq α][i:Sc α]
end
end Ty
noncomputable section
namespace Ty
open PySem VS L2
def fU:List (Bool×Nat)->Option Nat
 | []=>none
 | (b,k)::l=>if b=true then some k else fU l
def chk {α:Type}(l:List (Bool×Nat))(a:α):T Unit α:=match fU l with
 | none=>.ok a
 | some k=>.er k ()
section
variable {α β:Type}
theorem afs (a:α):chk [] a=.ok a:=rfl
theorem pQ (b:Bool)(k:Nat)(l:List (Bool×Nat))(a:α):chk ((b,k)::l) a=if b=true then .er k () else chk l a:=by
 unfold chk
 show(match(if b=true then some k else fU l) with
  | none=>T.ok a
  | some k=>.er k ())=_
 cases b<;>rfl
theorem kh {b:Bool}{k:Nat}{l:List (Bool×Nat)}{a:α}{t:T Unit α}(h:b=false->t=chk l a):(if b=true then .er k () else t)=chk ((b,k)::l) a:=by
 rw[pQ]
 cases b with
 | true=>rfl
 | false=>exact h rfl
theorem aD {b:Bool}{k:Nat}{l:List (Bool×Nat)}{a:α}{x:T Unit β}{u:β}{f:β->T Unit α}(h1:x=if b=true then .er k () else .ok u)(h2:b=false->f u=chk l a):x.bind f=chk ((b,k)::l) a:=by
 rw[pQ,h1]
 cases b with
 | true=>rfl
 | false=>exact h2 rfl
theorem gR {l l':List (Bool×Nat)}{a:α}{x:T Unit β}{u:β}{f:β->T Unit α}(h1:x=chk l u)(h2:fU l=none->f u=chk l' a):x.bind f=chk (l++l') a:=by
 subst h1
 induction l with
 | nil=>exact h2 rfl
 | cons p l ih =>
  obtain⟨b,k⟩:=p;rw[List.cons_append,pQ,pQ]
  cases b with
  | true=>rfl
  | false=>exact ih h2
theorem iy {l:List (Bool×Nat)}{a:α}{f:α->β}:((chk l a:T Unit α).bind λ a=>.ok (f a))=chk l (f a):=by
 unfold chk
 cases fU l<;>rfl
theorem xf {l:List (Bool×Nat)}{a:α}(h:fU l=none):chk l a=.ok a:=by
 unfold chk;rw[h]
theorem aak {l:List (Bool×Nat)}:fU l=none↔∀ p∈l,p.1=false:=by
 induction l with
 | nil=>simp[fU]
 | cons p l ih =>
  obtain⟨b,k⟩:=p;show(if b=true then some k else fU l)=none↔_
  cases b with
  | true=>simp
  | false=>simp[ih]
theorem m7 {b:Bool}{k:Nat}{l:List (Bool×Nat)}:fU ((b,k)::l)=none↔b=false/\fU l=none:=by
 show(if b=true then some k else fU l)=none↔_
 cases b<;>simp
theorem nY {f:β->Unit->T Unit Unit}{g:β->Bool}{k:Nat}:∀ {xs:List β},(∀ x∈xs,f x ()=if g x=true then .er k () else .ok ())->T.forM xs () f=if xs.any g=true then .er k () else .ok ()
 | [],_=>rfl
 | x::xs,h=>by
  rw[lD,h x List.mem_cons_self,List.any_cons]
  cases g x with
  | true=>rfl
  | false=>exact nY λ y hy=>h y (List.mem_cons_of_mem _ hy)
end
def outB (a lo hi:Int):Bool:=decide (a < lo∨hi < a)
def unkB (m:MootT)(n:Tx):Bool:=(dget m.aps.arr n).isNone
def earB (m:MootT)(d:Int)(n:Tx):Bool:=match dget m.aps.arr n with
 | some v=>decide (d < v)
 | none=>false
def deaB (m:MootT)(d:Int)(n:Tx):Bool:=deadB m.aps.des n d
def gonB (m:MootT)(n:Tx):Bool:=(dget m.aps.des n).isSome
def romB (m:MootT):Bool:=decide (400<=(m.apz.length:Int))
def thiB (m:MootT)(t:Int):Bool:=decide (t < 0)||decide ((m.apt.length:Int)<=t)
def brdB (m:MootT)(t d:Int):Bool:=match atI m.apt t with
 | some p=>decide (d < p.2)
 | none=>false
def tdyB (m:MootT)(k d:Int):Bool:=match atI m.apx k with
 | some p=>decide (d < p)
 | none=>false
def okOf {α:Type}(a:α):T Empty α->α
 | .ok t=>t
 | _=>a
def toldOf (us:List Suit):List Bool:=okOf [] (fQ us)
def brkOf (us:List Suit):List (Int×Tx):=okOf [] (pN us)
def swB (m:MootT)(k:Int)(n:Tx):Bool:=match atI m.apw k with
 | some u=>!memT n (namesOf u)
 | none=>false
def capL (m:MootT)(o p:List Tx):List (Bool×Nat) :=
 [(romB m,12),((decide ((60:Int)<=(m.apw.length:Int))||(decide ((12:Int) < (o.length:Int))||decide ((12:Int) < (p.length:Int)))),12),
  (decide ((ddN (o++p):Int) < ((o++p).length:Int)),13),((o++p).any (λ x=>memT x (fswn m.apw m.apy (toldOf m.apw))),14)]
def dueL (ds:List Wd)(m:MootT):Wd->List (Bool×Nat)
 | .come n d w=>[(!Lw.isN (n.cs.map (·.val)),2),(outB d 0 9999,3),(outB w 1 1000,3),((dget m.aps.arr n).isSome,5),(decide ((40:Int)<=(m.aps.arr.length:Int)),12),(romB m,12)]
 | .rise n d w=>[(outB d 0 9999,3),(outB w 1 1000,3),(unkB m n,4),(earB m d n,9),(deaB m d n,10),(romB m,12)]
 | .die n d h=>[(outB d 0 9999,3),(unkB m n,4),(unkB m h,4),(earB m d n,9),(earB m d h,9),(gonB m n,10),(decide (h=n)||gonB m h,11),(romB m,12)]
 | .penance n=>[(unkB m n,4),(gonB m n,10),(romB m,12)]
 | .bring n d=>[(outB d 0 9999,3),(([n]:List Tx).any (unkB m),4),(([n]:List Tx).any (earB m d),9),(false,9),(([n]:List Tx).any (deaB m d),10),(romB m,12),(decide ((40:Int)<=(m.apt.length:Int)),12)]
 | .give t a b d=>[(outB d 0 9999,3),(([a,b]:List Tx).any (unkB m),4),(thiB m t,6),(([a,b]:List Tx).any (earB m d),9),(brdB m t d,9),(([a,b]:List Tx).any (deaB m d),10),(romB m,12)]
 | .pay a b c d=>[(outB c 1 1000000,3),(outB d 0 9999,3),(([a,b]:List Tx).any (unkB m),4),(([a,b]:List Tx).any (earB m d),9),(false,9),(([a,b]:List Tx).any (deaB m d),10),(romB m,12)]
 | .claim a t d x o p=>[(outB d 0 9999,3),(outB x 1 12000,3),(((a::o)++p).any (unkB m),4),(thiB m t,6),(((a::o)++p).any (earB m d),9),(brdB m t d,9),(((a::o)++p).any (deaB m d),10)]++(capL m o p++[(decide (sumW (suitD ds ⟨d,x,o,p,none⟩).a < x),15)])
 | .wergild a b c d x o p=>[(outB c 1 1000000,3),(outB d 0 9999,3),(outB x 1 12000,3),(((a::b::o)++p).any (unkB m),4),(((a::b::o)++p).any (earB m d),9),(false,9),(((a::b::o)++p).any (deaB m d),10)]++(capL m o p++[(decide (sumW (suitD ds ⟨d,x,o,p,none⟩).a < x),15)])
 | .accuse k n d x o p=>[(outB d 0 9999,3),(outB x 1 12000,3),((o++p).any (unkB m),4),(decide (k < 0∨(m.apw.length:Int)<=k),7),(swB m k n,8),((o++p).any (earB m d),9),(tdyB m k d,9),((o++p).any (deaB m d),10)]++(capL m o p++[(decide (sumW (suitD ds ⟨d,x,o,p,some (k,n)⟩).a < x),15),(memT (k,n) (brkOf m.apw),16)])
section
variable {ds:List Wd}{m:MootT}
theorem jN {us:List Suit}(hs:SOk us):fQ us=.ok (toldOf us)/\Settles us no0 (toldOf us):=by
 obtain⟨t,e,h⟩:=sJ hs
 have:toldOf us=t:=(congrArg (okOf []) e).trans rfl
 rw[this];exact⟨e,h⟩
theorem tM {us:List Suit}(hs:SOk us):pN us=.ok (brkOf us)/\∀ k,k∈brkOf us↔brkB us (toldOf us) k=true:=by
 obtain⟨ol,_,ho⟩:=qj hs
 have e:=aag hs (jN hs).2 ho
 have:brkOf us=ol.filter λ k=>brkB us (toldOf us) k:=(congrArg (okOf []) e).trans rfl
 rw[this];refine⟨e,λ k=>?_⟩;rw[List.mem_filter,ho.mem];refine⟨λ h=>h.2,λ h=>⟨?_,h⟩⟩;obtain⟨j,u,a1,a2,a3⟩:=tG.mp h;obtain⟨i,w,b1,b2,b3,b4⟩:=hs.named j u k a1 a3;exact amN.mpr ⟨i,w,b1,b3,b4⟩
theorem jF (a lo hi:Int):aR a lo hi=if outB a lo hi=true then .er 3 () else .ok ():=by
 rw[abb];unfold outB
 by_cases h:a < lo∨hi < a
 ·rw[if_pos h,if_pos (decide_eq_true h)]
 ·rw[if_neg h,if_neg (by rw[decide_eq_true_eq];exact h)]
theorem vP (n:Tx):bV n m.aps.arr m.aps.rks m.aps.des=if unkB m n=true then .er 4 () else .ok ():=yJ n
theorem yN {n:Tx}(d:Int)(h:unkB m n=false):aW n d m.aps.arr m.aps.rks m.aps.des=if earB m d n=true then .er 9 () else .ok ():=by
 unfold unkB at h
 cases hv:dget m.aps.arr n with
 | none=>rw[hv]at h;cases h
 | some v =>
  rw[yK hv];unfold earB;rw[hv]
  by_cases c:d < v
  ·rw[if_pos c,if_pos (decide_eq_true c)]
  ·rw[if_neg c,if_neg (by rw[decide_eq_true_eq];exact c)]
theorem afu (n:Tx)(d:Int):fL n d m.aps.arr m.aps.rks m.aps.des=if deaB m d n=true then .er 10 () else .ok ():=acf n d
theorem qp:aV m.aps m.apt m.apu m.apv m.apw m.apx m.apy m.apz=if romB m=true then .er 12 () else .ok ():=rfl
theorem nZ (xs:List Tx):aX xs m.aps m.apt m.apu m.apv m.apw m.apx m.apy m.apz=if xs.any (unkB m)=true then .er 4 () else .ok ():=by
 unfold aX;rw[nY (g:=unkB m) (k:=4) λ x _=>by rw[vP];cases unkB m x<;>rfl]
 cases xs.any (unkB m)<;>rfl
theorem oh (xs:List Tx)(d:Int):aY xs d m.aps m.apt m.apu m.apv m.apw m.apx m.apy m.apz=if xs.any (deaB m d)=true then .er 10 () else .ok ():=by
 unfold aY;rw[nY (g:=deaB m d) (k:=10) λ x _=>by rw[afu];cases deaB m d x<;>rfl]
 cases xs.any (deaB m d)<;>rfl
theorem lH {xs:List Tx}(ss:List Int)(d:Int)(h:xs.any (unkB m)=false):aU xs ss d m.aps m.apt m.apu m.apv m.apw m.apx m.apy m.apz=chk [(xs.any (earB m d),9),(ss.any (λ s=>decide (d < s)),9)] ():=by
 unfold aU;rw[List.any_eq_false]at h;refine aD (nY (g:=earB m d) (k:=9) λ x hx=>?_) λ _=>aD (nY (g:=λ s=>decide (d < s)) (k:=9) λ s _=>rfl) λ _=>rfl;rw[yN d (by have:=h x hx;simpa using this)]
 cases earB m d x<;>rfl
theorem afv (t:Int):dh t m.aps m.apt m.apu m.apv m.apw m.apx m.apy m.apz=if thiB m t=true then .er 6 () else .ok ():=rfl
theorem acl {t:Int}(h:thiB m t=false):∃ p,atI m.apt t=some p:=by
 unfold thiB at h
 simp only[Bool.or_eq_false_iff,decide_eq_false_iff_not]at h
 exact⟨_,pZ (by omega) (by omega)⟩
theorem akQ (hs:SOk m.apw)(k:Int)(n:Tx):mX m.apw k n=chk [(decide (k < 0∨(m.apw.length:Int)<=k),7),(swB m k n,8)] ():=by
 unfold mX
 by_cases hk:k < 0∨(m.apw.length:Int)<=k
 ·rw[aai hk,pQ,if_pos (decide_eq_true hk)]
  rfl
 ·obtain⟨j,rfl⟩:=Int.eq_ofNat_of_zero_le (show 0<=k by omega)
  have hj:j < m.apw.length:=by omega
  have hw:m.apw[j]?=some m.apw[j]:=List.getElem?_eq_getElem hj
  have hsz:=hs.sz (List.getElem_mem hj)
  rw[yI hw,T.ok_bind,cA (by omega),aa,ab6 (by rw[List.length_append];omega),T.ok_bind,List.filter_eq_self.mpr λ _ _=>rfl];refine Eq.trans ?_ (pQ _ _ _ _).symm;rw[decide_eq_false hk];show _=chk [(swB m (j:Int) n,8)] ();unfold swB;rw[lN,hw];exact kh λ _=>rfl
theorem abe (hs:SOk m.apw){o p:List Tx}(ho:o.length<=1000)(hp:p.length<=1000):cH o p m.aps m.apt m.apu m.apv m.apw m.apx m.apy m.apz=chk (capL m o p) ():=by
 unfold cH capL;refine aD qp λ _=>kh λ _=>?_
 have hc:catT o p=some (o++p):=cA (by omega)
 have hls:aba (o++p)=some (ddN (o++p):Int):=if_pos (by rw[List.length_append];omega)
 rw[hc,aa,hls,aa,aa];show T.bind (T.ok _) _=_;rw[T.ok_bind];refine kh λ _=>?_;obtain⟨e1,e2⟩:=jN hs;rw[afm hs e1 e2.len,T.up_ok,T.ok_bind,aa];show T.bind (T.ok _) _=_;rw[T.ok_bind];exact aD (nY λ x _=>rfl) λ _=>rfl
theorem xg {α:Type}{f:α->Bool}{xs ys:List α}(h:xs.any f=false)(hs:∀ y∈ys,y∈xs):∀ y∈ys,f y=false:=λ y hy=>by
 rw[List.any_eq_false]at h
 have:=h y (hs y hy)
 simpa using this
theorem abf {n:Tx}{d:Int}(h1:unkB m n=false)(h2:earB m d n=false):∃ v,dget m.aps.arr n=some v/\v<=d:=by
 unfold unkB at h1;unfold earB at h2
 cases hv:dget m.aps.arr n with
 | none=>rw[hv]at h1;cases h1
 | some v =>
  rw[hv]at h2
  have:=of_decide_eq_false h2
  exact⟨v,rfl,by omega⟩
theorem afw (h:MInv ds m){d x:Int}{o p:List Tx}{nm:Option (Int×Tx)}(hk:∀ y∈o++p,∃ v,dget m.aps.arr y=some v/\v<=d)(hd:d<=9999)(ho:o.length<=12)(hp:p.length<=12):eZ d x o p nm m.aps m.apt m.apu m.apv m.apw m.apx m.apy m.apz=chk [(decide (sumW (suitD ds ⟨d,x,o,p,nm⟩).a < x),15)] (suitD ds ⟨d,x,o,p,nm⟩):=by
 unfold eZ
 have one:∀ l:List Tx,(∀ y∈l,y∈o++p)->l.length<=12->(T.lcs l (λ(i1:Tx)=>(((cY i1 d m.aps.arr m.aps.rks m.aps.des).bind λ r3 =>
 .ok (some (i1,r3))):T Unit (Option Oath))):T Unit (List Oath))=.ok (l.map λ n=>(n,wgt ds n d)):=by
  intro l hl hl2
  rw[ab7 (g:=λ n=>some (n,wgt ds n d)) (by omega) (λ y hy=>by
   obtain⟨v,hv,hvd⟩:=hk y (hl y hy)
   rw[(h.wgt_ok hv hvd hd).1,T.ok_bind])]
  rw[show(λ n=>some (n,wgt ds n d))=some∘(λ n:Tx=>((n,wgt ds n d):Oath)) from rfl,List.filterMap_eq_map]
 rw[one o (λ y hy=>List.mem_append_left _ hy) ho,T.ok_bind,one p (λ y hy=>List.mem_append_right _ hy) hp,T.ok_bind,yx _ (by rw[List.length_map];omega),T.up_ok,T.ok_bind];exact kh λ _=>rfl
theorem abg {o p:List Tx}(h:fU (capL m o p)=none):m.apz.length < 400/\m.apw.length < 60/\o.length<=12/\p.length<=12:=by
 unfold capL at h;rw[m7,m7]at h;obtain⟨h1,h2,_⟩:=h;unfold romB at h1
 simp only[Bool.or_eq_false_iff,decide_eq_false_iff_not]at h1 h2
 omega
theorem acn {a lo hi:Int}(h:outB a lo hi=false):lo<=a/\a<=hi:=by
 unfold outB at h
 have:=of_decide_eq_false h
 omega
theorem aco (h:MInv ds m)(hl:ds.length<=900){e:Wd}(hw:e.Wf):jy m e.t=chk (dueL ds m e) (resD m e,eff ds m e):=by
 obtain⟨l1,l2,l3,l4,l5,l6⟩:=h.len
 have h7:=h.dl
 have h8:=h.pn
 have h9:=h.pa
 have h10:=h.mo
 have brd:∀ {t d:Int} {q:Oath},atI m.apt t=some q->([q.2].any λ s=>decide (d < s))=brdB m t d:=λ {t d q} hq=>by
  unfold brdB;rw[hq]
  simp
 unfold jy jY
 cases e with
 | come n d w =>
  unfold Wd.t
  simp only[at0,at1,at2,at3,unT,unI,aa,T.nv_ok,T.ok_bind]
  rw[if_pos (by decide),if_pos (by decide)]
  have key:dN m n d w=chk (dueL ds m (.come n d w)) (eff ds m (.come n d w)):=by
   unfold dN oG iZ dueL;rw[T.ok_bind,T.up_ok,T.ok_bind]
   try dsimp only
   rw[pP hw,T.up_ok,T.ok_bind];refine gR (l:=[_,_,_,_,_]) (u:=(m.aps.arr++[(n,d)],m.aps.rks++[Tp3.mk n d w])) (kh λ _=>aD (jF _ _ _) λ _=>aD (jF _ _ _) λ _=>kh λ hg=>kh λ _=>?_) λ _=>?_
   ·rw[T.gd_of (szl _ (by omega)),T.gd_of (szl _ (by omega)),vO (by
     cases hq:dget m.aps.arr n with
     | none=>rfl
     | some v=>rw[hq]at hg;cases hg)]
    rfl
   ·refine aD qp λ _=>?_;rw[T.gd_of (szl _ (by first | omega | (dsimp only;omega))),T.up_ok,T.ok_bind]
    rfl
  rw[key,iy,iy]
  rfl
 | rise n d w =>
  unfold Wd.t
  simp only[at0,at1,at2,at3,unT,unI,aa,T.nv_ok,T.ok_bind]
  rw[if_pos (by decide),if_neg (by decide),if_pos (by decide)]
  have key:jo m n d w=chk (dueL ds m (.rise n d w)) (eff ds m (.rise n d w)):=by
   unfold jo oG jQ dueL;rw[T.ok_bind,T.up_ok,T.ok_bind]
   try dsimp only
   refine gR (l:=[_,_,_,_,_]) (u:=m.aps.rks++[Tp3.mk n d w]) (aD (jF _ _ _) λ _=>aD (jF _ _ _) λ _=>aD (vP n) λ hu=>aD (yN d hu) λ _=>aD (afu n d) λ _=>?_) λ _=>?_
   ·rw[T.gd_of (szl _ (by omega))]
    rfl
   ·refine aD qp λ _=>?_;rw[T.gd_of (szl _ (by first | omega | (dsimp only;omega))),T.up_ok,T.ok_bind]
    rfl
  rw[key,iy,iy]
  rfl
 | die n d x =>
  unfold Wd.t
  simp only[at0,at1,at2,at3,unT,unI,aa,T.nv_ok,T.ok_bind]
  rw[if_pos (by decide),if_neg (by decide),if_neg (by decide),if_pos (by decide)]
  have key:fY m n d x=chk (dueL ds m (.die n d x)) (eff ds m (.die n d x)):=by
   unfold fY oG kY dueL;rw[T.ok_bind,T.up_ok,T.ok_bind]
   try dsimp only
   refine gR (l:=[_,_,_,_,_,_,_]) (u:=m.aps.des++[(n,(d,x))]) (aD (jF _ _ _) λ _=>aD (vP n) λ hu=>aD (vP x) λ hx=>aD (yN d hu) λ _=>aD (yN d hx) λ _=>kh λ hg=>kh λ _=>?_) λ _=>?_
   ·rw[T.gd_of (szl _ (by omega)),vO (by
     cases hq:dget m.aps.des n with
     | none=>rfl
     | some v=>rw[hq]at hg;cases hg)]
    rfl
   ·refine aD qp λ _=>?_;rw[T.gd_of (szl _ (by first | omega | (dsimp only;omega))),T.up_ok,T.ok_bind]
    rfl
  rw[key,iy,iy]
  rfl
 | penance n =>
  unfold Wd.t
  simp only[at0,at1,unT,unI,aa,T.nv_ok,T.ok_bind]
  rw[if_pos (by decide),if_neg (by decide),if_neg (by decide),if_neg (by decide),if_pos (by decide)]
  have key:jd n m.aps m.apt m.apu m.apv m.apw m.apx m.apy m.apz=chk (dueL ds m (.penance n)) (dput m.apy n ((m.apw.length:Nat):Int),m.apz++[Wd.t (.penance n)]):=by
   unfold jd pq dueL;refine aD (vP n) λ _=>?_;rw[T.up_ok,T.ok_bind];refine kh λ _=>aD qp λ _=>?_;rw[T.gd_of (szl _ (by omega)),T.gd_of (szl _ (by omega))]
   rfl
  rw[key]
  try dsimp only
  rw[iy,iy]
  rfl
 | bring n d =>
  unfold Wd.t
  simp only[at0,at1,at2,unT,unI,aa,T.nv_ok,T.ok_bind]
  rw[if_pos (by decide),if_neg (by decide),if_neg (by decide),if_neg (by decide),if_neg (by decide),if_pos (by decide)]
  have key:cR n d m.aps m.apt m.apu m.apv m.apw m.apx m.apy m.apz=chk (dueL ds m (.bring n d)) (((m.apt.length:Nat):Int),m.apt++[(n,d)],m.apz++[Wd.t (.bring n d)]):=by
   unfold cR dueL;refine aD (jF _ _ _) λ _=>aD (nZ _) λ hu=>gR (l:=[_,_]) (lH _ _ hu) λ _=>aD (oh _ _) λ _=>aD qp λ _=>kh λ _=>?_;rw[T.gd_of (szl _ (by omega)),T.gd_of (szl _ (by omega)),List.length_append,List.length_singleton,afs]
   congr 2
   omega
  rw[key]
  try dsimp only
  rw[iy,iy]
  rfl
 | give t a b d =>
  unfold Wd.t
  simp only[at0,at1,at2,at3,at4,unT,unI,aa,T.nv_ok,T.ok_bind]
  rw[if_pos (by decide),if_neg (by decide),if_neg (by decide),if_neg (by decide),if_neg (by decide),if_neg (by decide),if_pos (by decide)]
  have key:lF t a b d m.aps m.apt m.apu m.apv m.apw m.apx m.apy m.apz=chk (dueL ds m (.give t a b d)) (m.apu++[Tp3.mk t (Tp4.mk d (tx "given") (some a) b) none],m.apz++[Wd.t (.give t a b d)]):=by
   unfold lF dueL;refine aD (jF _ _ _) λ _=>aD (nZ _) λ hu=>aD (afv t) λ ht=>?_;obtain⟨q,hq⟩:=acl ht;rw[hq,aa,←brd hq];refine gR (l:=[_,_]) (lH _ _ hu) λ _=>aD (oh _ _) λ _=>aD qp λ _=>?_;rw[T.gd_of (szl _ (by omega)),T.gd_of (szl _ (by omega))]
   rfl
  rw[key]
  try dsimp only
  rw[iy,iy]
  rfl
 | pay a b c d =>
  unfold Wd.t
  simp only[at0,at1,at2,at3,at4,unT,unI,aa,T.nv_ok,T.ok_bind]
  rw[if_pos (by decide),if_neg (by decide),if_neg (by decide),if_neg (by decide),if_neg (by decide),if_neg (by decide),if_neg (by decide)]
  have key:jD a b c d m.aps m.apt m.apu m.apv m.apw m.apx m.apy m.apz=chk (dueL ds m (.pay a b c d)) (m.apv++[(Tp4.mk d b a c,none)],m.apz++[Wd.t (.pay a b c d)]):=by
   unfold jD dueL;refine aD (jF _ _ _) λ _=>aD (jF _ _ _) λ _=>aD (nZ _) λ hu=>gR (l:=[_,_]) (lH _ _ hu) λ _=>aD (oh _ _) λ _=>aD qp λ _=>?_;rw[T.gd_of (szl _ (by omega)),T.gd_of (szl _ (by omega))]
   rfl
  rw[key]
  try dsimp only
  rw[iy,iy]
  rfl
 | claim a t d x o p =>
  unfold Wd.t
  simp only[at0,at1,at2,at3,at4,at5,at6,unT,unI,unL,aa,T.nv_ok,T.ok_bind]
  rw[if_neg (by decide),if_pos (by decide)]
  have w1:o.length<=1000:=hw.1
  have w2:p.length<=1000:=hw.2
  have key:jZ a t d x o p m.aps m.apt m.apu m.apv m.apw m.apx m.apy m.apz=chk (dueL ds m (.claim a t d x o p)) (((m.apw.length:Nat):Int),m.apu++[Tp3.mk t (Tp4.mk d (tx "won") none a) (some ((m.apw.length:Nat):Int))],m.apw++[suitD ds ⟨d,x,o,p,none⟩],m.apx++[d],m.apz++[Wd.t (.claim a t d x o p)]):=by
   unfold jZ dueL;rw[cA (by simp;omega),aa,cA (by simp;omega),aa,T.nv_ok,T.ok_bind];rw[show([a]:List Tx)++o=a::o from rfl];refine aD (jF _ _ _) λ h0=>aD (jF _ _ _) λ _=>aD (nZ _) λ hu=>aD (afv t) λ ht=>?_;obtain⟨q,hq⟩:=acl ht;rw[hq,aa,←brd hq];refine gR (l:=[_,_]) (lH _ _ hu) λ hc=>aD (oh _ _) λ _=>gR (l:=capL m o p) (abe h.tr w1 w2) λ hcap=>?_;rw[m7]at hc;obtain⟨_,_,q1,q2⟩:=abg hcap
   have hsub:∀ y∈o++p,y∈(a::o)++p:=λ y hy=>List.mem_cons_of_mem _ hy
   refine gR (l:=[_]) (afw h (λ y hy=>abf (xg hu hsub y hy) (xg hc.1 hsub y hy)) (acn h0).2 q1 q2) λ _=>?_;rw[keep_ok h hl _ _ (by simp),T.up_ok,T.ok_bind]
   try dsimp only
   rw[T.gd_of (szl _ (by omega))]
   rfl
  rw[key]
  try dsimp only
  rw[iy]
  rfl
 | wergild a b c d x o p =>
  unfold Wd.t
  simp only[at0,at1,at2,at3,at4,at5,at6,at7,unT,unI,unL,aa,T.nv_ok,T.ok_bind]
  rw[if_neg (by decide),if_neg (by decide),if_pos (by decide)]
  have w1:o.length<=1000:=hw.1
  have w2:p.length<=1000:=hw.2
  have key:je a b c d x o p m.aps m.apt m.apu m.apv m.apw m.apx m.apy m.apz=chk (dueL ds m (.wergild a b c d x o p)) (((m.apw.length:Nat):Int),m.apv++[(Tp4.mk d b a c,some ((m.apw.length:Nat):Int))],m.apw++[suitD ds ⟨d,x,o,p,none⟩],m.apx++[d],m.apz++[Wd.t (.wergild a b c d x o p)]):=by
   unfold je dueL;rw[cA (by simp;omega),aa,cA (by simp;omega),aa,T.nv_ok,T.ok_bind];rw[show([a,b]:List Tx)++o=a::b::o from rfl];refine aD (jF _ _ _) λ _=>aD (jF _ _ _) λ h0=>aD (jF _ _ _) λ _=>aD (nZ _) λ hu=>gR (l:=[_,_]) (lH _ _ hu) λ hc=>aD (oh _ _) λ _=>gR (l:=capL m o p) (abe h.tr w1 w2) λ hcap=>?_;rw[m7]at hc;obtain⟨_,_,q1,q2⟩:=abg hcap
   have hsub:∀ y∈o++p,y∈(a::b::o)++p:=λ y hy=>List.mem_cons_of_mem _ (List.mem_cons_of_mem _ hy)
   refine gR (l:=[_]) (afw h (λ y hy=>abf (xg hu hsub y hy) (xg hc.1 hsub y hy)) (acn h0).2 q1 q2) λ _=>?_;rw[keep_ok h hl _ _ (by simp),T.up_ok,T.ok_bind]
   try dsimp only
   rw[T.gd_of (szl _ (by omega))]
   rfl
  rw[key]
  try dsimp only
  rw[iy]
  rfl
 | accuse k n d x o p =>
  unfold Wd.t
  simp only[at0,at1,at2,at3,at4,at5,at6,at7,unT,unI,unL,aa,T.nv_ok,T.ok_bind]
  rw[if_neg (by decide),if_neg (by decide),if_neg (by decide)]
  have w1:o.length<=1000:=hw.1
  have w2:p.length<=1000:=hw.2
  have key:jE k n d x o p m.aps m.apt m.apu m.apv m.apw m.apx m.apy m.apz=chk (dueL ds m (.accuse k n d x o p)) (((m.apw.length:Nat):Int),m.apw++[suitD ds ⟨d,x,o,p,some (k,n)⟩],m.apx++[d],m.apz++[Wd.t (.accuse k n d x o p)]):=by
   unfold jE dueL;rw[cA (by omega),aa,T.nv_ok,T.ok_bind];refine aD (jF _ _ _) λ h0=>aD (jF _ _ _) λ _=>aD (nZ _) λ hu=>gR (l:=[_,_]) (akQ h.tr k n) λ hsw=>?_;rw[m7]at hsw
   have hk:=of_decide_eq_false hsw.1
   obtain⟨q,hq⟩:∃ q,atI m.apx k=some q:=⟨_,pZ (by omega) (by omega)⟩
   have ht:([q].any λ s=>decide (d < s))=tdyB m k d:=by
    unfold tdyB;rw[hq]
    simp
   rw[hq,aa,←ht];refine gR (l:=[_,_]) (lH _ _ hu) λ hc=>aD (oh _ _) λ _=>gR (l:=capL m o p) (abe h.tr w1 w2) λ hcap=>?_;rw[m7]at hc;obtain⟨_,_,q1,q2⟩:=abg hcap;refine gR (l:=[_]) (afw h (λ y hy=>abf (xg hu (λ _ z=>z) y hy) (xg hc.1 (λ _ z=>z) y hy)) (acn h0).2 q1 q2) λ _=>?_;rw[(tM h.tr).1,T.up_ok,T.ok_bind];refine kh λ _=>?_;rw[keep_ok h hl _ _ (by simp),T.up_ok,T.ok_bind]
   rfl
  rw[key]
  try dsimp only
  rw[iy]
  rfl
end
inductive Pld:List Wd->MootT->Prop
 | nil:Pld [] pA
 | snoc {ds:List Wd} {m:MootT} {e:Wd}:Pld ds m->e.Wf->fU (dueL ds m e)=none->Pld (ds++[e]) (eff ds m e)
theorem am3 {ds:List Wd}{m:MootT}{e:Wd}(h:fU (dueL ds m e)=none):m.apz.length < 400:=by
 have key:(romB m,12)∈dueL ds m e->m.apz.length < 400:=λ hm=>by
  have:=aak.mp h _ hm
  unfold romB at this
  have:=of_decide_eq_false this
  omega
 refine key ?_
 cases e<;>simp[dueL,capL]
theorem Pld.both {ds:List Wd}{m:MootT}(h:Pld ds m):MInv ds m/\ds.length<=400:=by
 induction h with
 | nil=>exact⟨ahU,by simp⟩
 | @snoc ds m e _ hw hd ih =>
  obtain⟨i1,i2⟩:=ih
  have hlt:=am3 hd
  obtain⟨_,_,_,_,_,l6⟩:=i1.len
  have hp:=afp i1 (by omega) hw
  rw[aco i1 (by omega) hw,xf hd]at hp;exact⟨hp.2,by rw[List.length_append,List.length_singleton];omega⟩
theorem Pld.inv {ds:List Wd}{m:MootT}(h:Pld ds m):MInv ds m:=h.both.1
theorem Pld.len {ds:List Wd}{m:MootT}(h:Pld ds m):ds.length<=400:=h.both.2
theorem Pld.done {ds:List Wd}{m:MootT}(h:Pld ds m){e:Wd}(hw:e.Wf):jy m e.t=chk (dueL ds m e) (resD m e,eff ds m e):=aco h.inv (by have:=h.len;omega) hw
theorem sO {α:Type}{xs ys:List α}{x y:α}(h:xs++[x]=ys++[y]):xs=ys/\x=y:=by
 have:=List.append_inj' h rfl
 exact⟨this.1,(List.cons.inj this.2).1⟩
theorem akR {ds:List Wd}{m m':MootT}(h:Pld ds m)(h':Pld ds m'):m=m':=by
 induction h generalizing m' with
 | nil =>
  generalize hn:([]:List Wd)=l at h'
  cases h' with
  | nil=>rfl
  | snoc _ _ _=>simp at hn
 | @snoc ds m e _ _ _ ih =>
  generalize hn:ds++[e]=l at h'
  cases h' with
  | nil=>simp at hn
  | snoc h2 _ _ =>
   obtain⟨rfl,rfl⟩:=sO hn;rw[ih h2]
theorem Pld.pre {ds:List Wd}{m:MootT}(h:Pld ds m):∀ {ds1 ds2:List Wd},ds=ds1++ds2->∃ m1,Pld ds1 m1:=by
 induction h with
 | nil =>
  intro ds1 ds2 e
  have:ds1=[]:=by cases ds1 with
   | nil=>rfl
   | cons=>cases e
  exact⟨_,this ▸ Pld.nil⟩
 | @snoc ds m e h hw hd ih =>
  intro ds1 ds2 e2;rcases List.eq_nil_or_concat ds2 with rfl | ⟨l,x,rfl⟩
  ·rw[List.append_nil]at e2;exact⟨_,e2 ▸ Pld.snoc h hw hd⟩
  ·rw[List.concat_eq_append,←List.append_assoc]at e2;exact ih (sO e2).1
theorem Pld.next {ds1:List Wd}{m1:MootT}(h1:Pld ds1 m1){e:Wd}{ds2:List Wd}{m:MootT}(h:Pld (ds1++e::ds2) m):e.Wf/\fU (dueL ds1 m1 e)=none/\Pld (ds1++[e]) (eff ds1 m1 e):=by
 obtain⟨m2,h2⟩:=h.pre (ds1:=ds1++[e]) (ds2:=ds2) (by simp)
 generalize hn:ds1++[e]=l at h2
 cases h2 with
 | nil=>simp at hn
 | snoc h3 hw hd =>
  obtain⟨rfl,rfl⟩:=sO hn
  have:=akR h1 h3
  subst this
  exact⟨hw,hd,Pld.snoc h1 hw hd⟩
def nmsD (ds:List Wd):List Tx:=(ds.filterMap Wd.come?).map Prod.fst
theorem Pld.names {ds:List Wd}{m:MootT}(h:Pld ds m):m.aps.arr.map Prod.fst=nmsD ds:=by
 rw[h.inv.arr]
 rfl
theorem vQ (ds:List Wd)(e:Wd):nmsD (ds++[e])=nmsD ds++(e.come?.toList).map Prod.fst:=by
 unfold nmsD;rw[du,List.map_append]
theorem qQ {ds:List Wd}{m:MootT}(h:MInv ds m)(n:Tx):unkB m n=false↔n∈nmsD ds:=by
 unfold unkB nmsD;rw[←h.arr]
 constructor
 ·intro hq
  cases hv:dget m.aps.arr n with
  | none=>rw[hv]at hq;cases hq
  | some v=>exact List.mem_map.mpr ⟨_,iY hv,rfl⟩
 ·intro hq;obtain⟨v,hv,_⟩:=o9 hq;rw[hv]
  rfl
theorem Pld.des {ds:List Wd}{m:MootT}(h:Pld ds m):m.aps.des=ds.filterMap Wd.die?:=by
 induction h with
 | nil=>rfl
 | @snoc ds m e _ _ _ ih =>
  rw[du,←ih]
  cases e<;>first | rfl | exact(List.append_nil _).symm
theorem Pld.arr0 {ds:List Wd}{m:MootT}(h:Pld ds m):∀ p∈m.aps.arr,0<=p.2/\p.2<=9999:=by
 induction h with
 | nil=>simp[pA]
 | @snoc ds m e _ _ hd ih =>
  cases e with
  | come n d w =>
   intro p hp;rcases List.mem_append.mp hp with hp | hp
   ·exact ih p hp
   ·rw[List.mem_singleton]at hp
    subst hp
    exact acn (aak.mp hd _ (List.mem_cons_of_mem _ List.mem_cons_self))
  | _=>exact ih
theorem Pld.dk {ds:List Wd}{m:MootT}(h:Pld ds m):(∀ p∈m.aps.des,p.1∈nmsD ds/\p.2.2∈nmsD ds)/\∀ (pre post:Des) (n:Tx) (v:Int×Tx),m.aps.des=pre++(n,v)::post->v.2≠n/\v.2∉pre.map Prod.fst:=by
 induction h with
 | nil=>exact⟨by simp[pA],λ pre post n v e=>by cases pre<;>cases e⟩
 | @snoc ds m e h hw hd ih =>
  obtain⟨i1,i2⟩:=ih
  have grow:(∀ p∈m.aps.des,p.1∈nmsD (ds++[e])/\p.2.2∈nmsD (ds++[e])):=λ p hp=>by
   rw[vQ];exact⟨List.mem_append_left _ (i1 p hp).1,List.mem_append_left _ (i1 p hp).2⟩
  cases e with
  | die n d x =>
   have hall:=aak.mp hd
   have h1:unkB m n=false:=hall (unkB m n,4) (by simp[dueL])
   have h2:unkB m x=false:=hall (unkB m x,4) (by simp[dueL])
   have h3:(decide (x=n)||gonB m x)=false:=hall (decide (x=n)||gonB m x,11) (by simp[dueL])
   rw[Bool.or_eq_false_iff]at h3
   have h5:x≠n:=of_decide_eq_false h3.1
   have h6:x∉m.aps.des.map Prod.fst:=yH (by
    have:=h3.2
    unfold gonB at this
    cases hq:dget m.aps.des x with
    | none=>rfl
    | some v=>rw[hq]at this;cases this)
   refine⟨λ p hp=>?_,λ pre post y v e2=>?_⟩
   ·rcases List.mem_append.mp hp with hp | hp
    ·exact grow p hp
    ·rw[List.mem_singleton]at hp
     subst hp
     rw[vQ];exact⟨List.mem_append_left _ ((qQ h.inv n).mp h1),List.mem_append_left _ ((qQ h.inv x).mp h2)⟩
   ·have e2:m.aps.des++[(n,(d,x))]=pre++(y,v)::post:=e2
    rcases List.eq_nil_or_concat post with rfl | ⟨l,z,rfl⟩
    ·obtain⟨q1,q2⟩:=sO e2
     subst q1
     cases q2
     exact⟨h5,h6⟩
    ·rw[List.concat_eq_append,←List.cons_append,←List.append_assoc]at e2;exact i2 pre l y v (sO e2).1
  | _=>exact⟨grow,i2⟩
section
variable {ds:List Wd}{m:MootT}{ns:List Tx}
theorem Pld.fd (h:Pld ds m):Fd (nmsD ds) (ds.filterMap Wd.di?) m.aps.arr m.aps.des:=by
 refine⟨?_,h.names,h.arr0,?_,h.dk.1,h.dk.2⟩
 ·rw[h.inv.arr];unfold vN;rw[List.filterMap_filterMap]
  congr 1
  funext e
  cases e<;>first | rfl | (show none=(if(_:Tx)=comeX then _ else none);exact(if_neg (by decide)).symm)
 ·rw[h.des];unfold dies;rw[List.filterMap_filterMap,List.map_filterMap]
  congr 1
  funext e
  cases e<;>first | rfl | (show(if(_:Tx)=dieX then _ else none)=none;exact if_neg (by decide))
theorem Pld.al (h:Pld ds m):m.aps.arr.length<=40:=by
 induction h with
 | nil=>simp[pA]
 | @snoc ds m e _ _ hd ih =>
  cases e with
  | come n d w =>
   have:=aak.mp hd (decide ((40:Int)<=(m.aps.arr.length:Int)),12) (by simp[dueL])
   have:=of_decide_eq_false this
   show(m.aps.arr++[(n,d)]).length<=40;rw[List.length_append,List.length_singleton]
   omega
  | _=>exact ih
theorem Pld.dnd (h:Pld ds m):(m.aps.des.map Prod.fst).Nodup:=by
 induction h with
 | nil=>exact List.nodup_nil
 | @snoc ds m e h _ hd ih =>
  cases e with
  | die n d x =>
   have h3:gonB m n=false:=aak.mp hd (gonB m n,10) (by simp[dueL])
   show((m.aps.des++[(n,(d,x))]).map Prod.fst).Nodup;rw[List.map_append,List.nodup_append];refine⟨ih,by simp,λ a ha b hb=>?_⟩
   simp only[List.map_cons,List.map_nil,List.mem_singleton]at hb
   subst hb
   intro z
   subst z
   exact yH (by
    unfold gonB at h3
    cases hq:dget m.aps.des a with
    | none=>rfl
    | some v=>rw[hq]at h3;cases h3) ha
  | _=>exact ih
theorem Pld.dl (h:Pld ds m):m.aps.des.length<=40:=by
 have h1:=mO h.dnd (ys:=nmsD ds) λ x hx=>by
  obtain⟨p,hp,rfl⟩:=List.mem_map.mp hx;exact(h.dk.1 p hp).1
 rw[List.length_map,←h.names,List.length_map]at h1
 have:=h.al
 omega
end
section
variable {ds:List Wd}{m:MootT}{w:WorldT}
end
section
variable {ds:List Wd}{m:MootT}{ns:List Tx}
end
end Ty
namespace VS
open PySem PySem.Spec PyProof.Rows L2
def cutU (d:DeedT)(lo hi:Option Int):Option DeedT:=if HT.sIx d.ps.length 0 lo=0/\HT.sIx d.ps.length d.ps.length hi=d.ps.length then none else some ⟨cutT d.ps lo hi⟩
theorem am4 (d:DeedT)(lo hi:Option Int):dSl (Enc.enc d) lo hi=(cutU d lo hi).map λ z=>S.d (Enc.enc z):=by
 show(if HT.sIx (d.ps.map Enc.enc).length 0 lo=0/\HT.sIx (d.ps.map Enc.enc).length (d.ps.map Enc.enc).length hi=(d.ps.map Enc.enc).length then none else some (S.d (.tuple (cutD (d.ps.map Enc.enc) lo hi))))=_;unfold cutU;rw[List.length_map]
 split
 ·rfl
 ·show _=some (S.d (.tuple ((cutT d.ps lo hi).map Enc.enc)));unfold cutD cutT;rw[List.length_map,List.map_take,List.map_drop]
def Un.isL:Un->Bool
 | .l _=>true
 | _=>false
theorem akS (u:Un):isTy "list" (Enc.enc u)=some (Enc.enc u.isL):=by
 cases u with
 | i _=>exact ab4 (show kitB "int" "list"=some false by decide +kernel)
 | t _=>exact ab4 (show kitB "str" "list"=some false by decide +kernel)
 | l _=>exact ab4 (show kitB "list" "list"=some true by decide +kernel)
 | o=>exact ab4 (show kitB "NoneType" "list"=some false by decide +kernel)
theorem akT {A:LS}{ga:LS->R D}{u:Un}(h:Pu A ga (Enc.enc u)):Pu A (gIsi "list" ga) (Enc.enc u.isL):=wz h (akS u)
section
variable {ω β ε:Type}{A:LS}{t:T ε β}{F:β->ω}{B:β->LS}{X:ε->LS}
end
end VS
noncomputable section
namespace Ty
open PySem VS L2
section
variable {ds:List Wd}{m:MootT}
end
end Ty
namespace Ty
open PySem VS L2 Lw
section
variable {ds:List Wd}{m:MootT}
theorem yh {α β:Type}(f:α->β):∀ xs:List α,xs.flatMap (λ i=>[f i])=xs.map f
 | []=>rfl
 | x::xs=>by rw[List.flatMap_cons,List.map_cons,yh f xs];rfl
end
end Ty
namespace Ty
open PySem VS L2
def unK:Un->Nat
 | .i _=>0
 | .t _=>1
 | .l _=>2
 | .o=>3
def Wd.put:Wd->Nat->Un->Wd
 | .rise _ d w,1,.t x=>.rise x d w
 | .rise n _ w,2,.i x=>.rise n x w
 | .rise n d _,3,.i x=>.rise n d x
 | .die _ d h,1,.t x=>.die x d h
 | .die n _ h,2,.i x=>.die n x h
 | .die n d _,3,.t x=>.die n d x
 | .penance _,1,.t x=>.penance x
 | .bring _ d,1,.t x=>.bring x d
 | .bring n _,2,.i x=>.bring n x
 | .give _ a b d,1,.i x=>.give x a b d
 | .give t _ b d,2,.t x=>.give t x b d
 | .give t a _ d,3,.t x=>.give t a x d
 | .give t a b _,4,.i x=>.give t a b x
 | .pay _ b c d,1,.t x=>.pay x b c d
 | .pay a _ c d,2,.t x=>.pay a x c d
 | .pay a b _ d,3,.i x=>.pay a b x d
 | .pay a b c _,4,.i x=>.pay a b c x
 | .claim _ t d y o p,1,.t x=>.claim x t d y o p
 | .claim a _ d y o p,2,.i x=>.claim a x d y o p
 | .claim a t _ y o p,3,.i x=>.claim a t x y o p
 | .claim a t d _ o p,4,.i x=>.claim a t d x o p
 | .claim a t d y _ p,5,.l x=>.claim a t d y x p
 | .claim a t d y o _,6,.l x=>.claim a t d y o x
 | .wergild _ b c d y o p,1,.t x=>.wergild x b c d y o p
 | .wergild a _ c d y o p,2,.t x=>.wergild a x c d y o p
 | .wergild a b _ d y o p,3,.i x=>.wergild a b x d y o p
 | .wergild a b c _ y o p,4,.i x=>.wergild a b c x y o p
 | .wergild a b c d _ o p,5,.i x=>.wergild a b c d x o p
 | .wergild a b c d y _ p,6,.l x=>.wergild a b c d y x p
 | .wergild a b c d y o _,7,.l x=>.wergild a b c d y o x
 | .accuse _ n d y o p,1,.i x=>.accuse x n d y o p
 | .accuse k _ d y o p,2,.t x=>.accuse k x d y o p
 | .accuse k n _ y o p,3,.i x=>.accuse k n x y o p
 | .accuse k n d _ o p,4,.i x=>.accuse k n d x o p
 | .accuse k n d y _ p,5,.l x=>.accuse k n d y x p
 | .accuse k n d y o _,6,.l x=>.accuse k n d y o x
 | e,_,_=>e
end Ty
noncomputable section
namespace Ty
open PySem VS Lw L2
end Ty
namespace Ty
open PySem VS L2
section
variable {ds:List Wd}{m:MootT}{ns:List Tx}
end
end Ty
namespace Ty
open PySem VS L2 Lw
section
variable {ds:List Wd}{m:MootT}
theorem Pld.take (g:Pld ds m)(k:Nat):∃ mk,Pld (ds.take k) mk:=g.pre (ds1:=ds.take k) (ds2:=ds.drop k) (List.take_append_drop k ds).symm
end
section
variable {ds:List Wd}{m:MootT}
end
section
variable {ds:List Wd}{m:MootT}
end
end Ty
noncomputable section
namespace Ty
open PySem VS L2 Lw
section
variable {ds:List Wd}{m:MootT}{w:WorldT}
end
end Ty
noncomputable section
namespace Ty
open PySem VS L2 Lw
section
variable {ds:List Wd}{m:MootT}{w:WorldT}
end
end Ty
noncomputable section
namespace Ty
open PySem VS L2
section
variable {ds:List Wd}{m:MootT}{w:WorldT}
end
def chgP (t0 t1:List Bool)(i:Int):Bool:=decide (t1[i.toNat]?≠t0[i.toNat]?)
def chgL (M:Nat)(t0 t1:List Bool):List Int:=(rangeT M).filter (chgP t0 t1)
section
variable {ds:List Wd}{m:MootT}{w:WorldT}
def cntL (M:Nat)(t0 t1:List Bool):List Int:=chgL M t0 t1++(if(t1[M]?).getD false=true then [(M:Int)] else [])
end
section
variable {ds:List Wd}{m:MootT}{w:WorldT}
end
end Ty
namespace Ty
open PySem VS L2
theorem abi {α:Type}[Enc α][DecidableEq α][Sc α]:∀ xs:List α,PyData.canLayAll0 (xs.map Enc.enc)=true
 | []=>by unfold PyData.canLayAll0;rfl
 | x::xs=>by
  show PyData.canLayAll0 (Enc.enc x::xs.map Enc.enc)=true;unfold PyData.canLayAll0;rw[Sc.lay x,abi xs]
  rfl
theorem dpAllS {α:Type}[Enc α][DecidableEq α][i:Sc α]:∀ xs:List α,PyData.depthAll (xs.map Enc.enc)<=i.dep
 | []=>by unfold PyData.depthAll;exact Nat.zero_le _
 | x::xs=>by
  show PyData.depthAll (Enc.enc x::xs.map Enc.enc)<=_;unfold PyData.depthAll;exact Nat.max_le.mpr ⟨i.dp x,dpAllS xs⟩
theorem abj {α:Type}[Enc α][DecidableEq α][Sc α]:∀ xs ys:List α,PyData.eqvAll (xs.map Enc.enc) (ys.map Enc.enc)=decide (xs=ys)
 | [],[]=>by unfold PyData.eqvAll;rfl
 | [],_::_=>by unfold PyData.eqvAll;rfl
 | _::_,[]=>by unfold PyData.eqvAll;rfl
 | x::xs,y::ys=>by
  show PyData.eqvAll (Enc.enc x::xs.map Enc.enc) (Enc.enc y::ys.map Enc.enc)=_;unfold PyData.eqvAll;rw[Sc.eqv x y,abj xs ys]
  by_cases h1:x=y<;>by_cases h2:xs=ys<;>simp[h1,h2]
instance {α:Type}[Enc α][DecidableEq α][i:Sh α]:Sh (List (Option α)) where
 dep:=i.dep+1
 nn:=λ _ h=>by cases h
 lay:=λ xs=>by
  show PyData.canLay0 (.list (xs.map Enc.enc))=true
  unfold PyData.canLay0
  exact abi xs
 dp:=λ xs=>by
  show PyData.depth (.list (xs.map Enc.enc))<=_
  unfold PyData.depth
  exact Nat.succ_le_succ (dpAllS xs)
 eqv:=λ xs ys=>by
  show PyData.eqv (.list (xs.map Enc.enc)) (.list (ys.map Enc.enc))=_
  unfold PyData.eqv
  exact abj xs ys
end Ty
noncomputable section
namespace Ty
open PySem VS L2
section
variable {us:List Suit}
end
section
variable {ds:List Wd}{m:MootT}{w:WorldT}
end
section
variable {ds:List Wd}{m:MootT}{w:WorldT}
end
section
variable {ds:List Wd}{m:MootT}{w:WorldT}
section
variable {k:Int}{n one other:Tx}
end
end
section
variable {ds:List Wd}{m:MootT}{w:WorldT}
end
end Ty
namespace Ty
open PySem VS L2
def T.try2 {ε α:Type}(k1 ks:List Nat)(t:T Unit α)(h1 h2:T Empty α):T ε α:=match t with
 | .ok a=>.ok a
 | .er k _=>if k∈k1 then T.up h1 else if k∈ks then T.up h2 else .no
 | .no=>.no
section
variable {γ ε ν ω α β:Type}{A:LS}{F:β->ω}{B:β->LS}{X:ε->LS}
end
end Ty
noncomputable section
namespace Ty
open PySem VS L2
section
variable {ds:List Wd}{m:MootT}{w:WorldT}
end
section
variable {ds:List Wd}{m:MootT}{w:WorldT}
end
end Ty
noncomputable section
namespace Ty
open PySem VS Lw L2
def pB (apG:MootT)(deed:DeedT):T Empty (Tx×MootT) :=
 ((T.try2 [12] [2,3,4,5,6,7,8,9,10,11,12,13,14,15,16] (((jy apG deed).bind λ(r3,moot4) =>
 .ok (moot4,(tx ""))):T Unit (MootT×Tx)) ((.ok (apG,(tx "TooMany"))):T Empty (MootT×Tx)) ((.ok (apG,(tx "other"))):T Empty (MootT×Tx))):T Empty (MootT×Tx)).bind λ(moot1,kind2) =>
 .ok (kind2,moot1)
end Ty
namespace Ty
open PySem VS L2
section
variable {ns:List Tx}{z:Tx}{ds:List Wd}{m:MootT}
theorem kind_ok (g:Pld ds m){e:Wd}(hw:e.Wf)(h:fU (dueL ds m e)=none):pB m e.t=.ok (tx "",eff ds m e):=by
 unfold pB;rw[g.done hw,xf h]
 rfl
end
section
variable {ns:List Tx}{z:Tx}{ds:List Wd}{m:MootT}
end
section
variable {ns:List Tx}{z:Tx}{ds:List Wd}{m:MootT}
end
end Ty
noncomputable section
namespace Ty
open PySem VS L2
section
variable {u:Tp6 Tx Tx Tx Tx Tx Tx}{ds:List Wd}{m:MootT}
end
section
variable {u:Tp6 Tx Tx Tx Tx Tx Tx}{ds:List Wd}{m:MootT}
end
section
variable {u:Tp6 Tx Tx Tx Tx Tx Tx}{ds:List Wd}{m:MootT}
end
section
variable {u:Tp6 Tx Tx Tx Tx Tx Tx}{ds:List Wd}{m:MootT}
end
section
variable {u:Tp6 Tx Tx Tx Tx Tx Tx}{ds:List Wd}{m:MootT}
end
end Ty
namespace Ty
open PySem VS L2
instance:Sh DeedT where
 dep:=2
 nn:=λ _ h=>by cases h
 lay:=λ x=>by
  show PyData.canLay0 (.tuple (x.ps.map Enc.enc))=true
  unfold PyData.canLay0
  exact abi x.ps
 dp:=λ x=>by
  show PyData.depth (.tuple (x.ps.map Enc.enc))<=_
  unfold PyData.depth
  exact Nat.succ_le_succ (dpAllS x.ps)
 eqv:=λ x y=>by
  show PyData.eqv (.tuple (x.ps.map Enc.enc)) (.tuple (y.ps.map Enc.enc))=_
  unfold PyData.eqv
  rw[abj]
  cases x
  cases y
  simp
end Ty
noncomputable section
namespace Ty
open PySem VS L2
section
variable {ds:List Wd}{m:MootT}{w:WorldT}
end
section
variable {ds:List Wd}{m:MootT}{w:WorldT}
end
section
variable {ds:List Wd}{m:MootT}{w:WorldT}
end
section
variable {ds:List Wd}{m:MootT}{w:WorldT}
end
end Ty
namespace VS
open PySem PySem.Spec PyProof.Rows L2
section
variable {κ α:Type}{A:LS}
def PuP (A:LS)(g:LS->R (List (Key×D)))(l:List (Key×D)):Prop:=∀ L,Mt A L->g L=.ok l L
theorem afB [Enc1 κ][Enc α]:PuP A gPNil (acS ([]:Dt κ α)):=λ L _=>rfl
theorem jR [Enc κ][Enc1 κ][i:KD1 κ][Enc α]{ga gb:LS->R D}{gr:LS->R (List (Key×D))}{x:κ}{z:α}{l:Dt κ α}(h1:Pu A ga (Enc.enc x))(h2:Pu A gb (Enc.enc z))(h3:PuP A gr (acS l)):PuP A (gPCons ga gb gr) (acS (((x,z)::l):Dt κ α)):=λ L hL=>by
 show(ga L).bind (λ d L1=>(gb L1).bind λ e L2=>(gr L2).bind λ r L3=>match keyD d with
  | some k=>R.ok ((k,e)::r) L3
  | none=>R.stuck)=_
 rw[h1 L hL,R.bind_ok,h2 L hL,R.bind_ok,h3 L hL,R.bind_ok,i.eq x]
 rfl
theorem ah1 {ds:List (Key×D)}{k:Key}{e:D}(h:(ds.any λ kv=>decide (kv.1=k))=false):putD ds k e=ds++[(k,e)]:=by
 unfold putD;rw[h]
 rfl
theorem aam:∀ (more kvs:List (Key×D)),(kvs++more).Pairwise (λ a b=>a.1≠b.1)->mergeD kvs more=kvs++more
 | [],kvs,_=>(List.append_nil _).symm
 | (k,e)::r,kvs,h=>by
  show mergeD (putD kvs k e) r=_
  have h1:(kvs.any λ kv=>decide (kv.1=k))=false:=by
   rw[List.any_eq_false];intro p hp
   have:=(List.pairwise_append.mp h).2.2 p hp (k,e) List.mem_cons_self
   rw[decide_eq_true_eq];exact this
  rw[ah1 h1,aam r (kvs++[(k,e)]) (by rw[List.append_assoc];exact h),List.append_assoc]
  rfl
theorem acp [Enc1 κ][Enc α]{g:LS->R (List (Key×D))}{l:Dt κ α}(h:PuP A g (acS l))(hl:l.length<=15)(hm:(l.map Prod.fst).Nodup):Pu A (gDlitN g) (.odK (acS l)):=λ L hL=>by
 show(g L).bind (λ kvs L1=>if kvs.length<=15 then R.ok (S.odK (mergeD [] kvs)) L1 else .stuck)=_
 have h1:(acS l).length<=15:=by
  unfold acS;rw[List.length_map];exact hl
 rw[h L hL,R.bind_ok,if_pos h1,aam,List.nil_append];rw[List.nil_append];unfold acS;rw[List.pairwise_map];exact(List.pairwise_map.mp hm).imp λ hne he=>hne (Enc1.inj _ _ he)
end
section
variable {ε β κ α ω:Type}{A:LS}{t:T ε β}{F:β->ω}{B:β->LS}{X:ε->LS}
end
end VS
noncomputable section
namespace Ty
open PySem VS L2
section
variable {ds:List Wd}{m:MootT}{w:WorldT}
end
section
variable {ds:List Wd}{m:MootT}{w:WorldT}
end
section
variable {ds:List Wd}{m:MootT}{w:WorldT}
end
section
variable {ds:List Wd}{m:MootT}{w:WorldT}
end
end Ty
noncomputable section
namespace Ty
open PySem VS L2
section
variable {ds:List Wd}{m:MootT}
end
section
variable {ds:List Wd}{m:MootT}
end
section
variable {ds:List Wd}{m:MootT}
end
end Ty
noncomputable section
namespace Ty
open PySem VS Lw L2
end Ty
namespace Ty
open PySem VS L2
section
variable {us:List Suit}{apz:List Bool}{c:Nat}{u:Suit}
end
section
variable {ds:List Wd}{m:MootT}{w:WorldT}
end
section
variable {ds:List Wd}{m:MootT}
end
section
variable {us as:List Suit}{S:List Oa}{o:Tx}
end
section
variable {ds1:List Wd}{m1 m:MootT}{o:Tx}{pre:List Oa}
end
end Ty
noncomputable section
namespace VS
open PySem PySem.Spec PyProof.Rows L2
section
variable {ω β γ δ ε:Type}{A:LS}{t:T ε β}{F:β->ω}{B:β->LS}{X:ε->LS}{m:LS->R S}{i:Nat}{ge:LS->R S}{gk:LS->R D}
end
section
variable {ω β ε:Type}{A:LS}{t:T ε β}{F:β->ω}{B:β->LS}{X:ε->LS}{K:Kont ω}{j:Nat}{f:D->LS->Option LS}{g:LS->R O}
end
end VS
noncomputable section
namespace VS
open PySem PySem.Spec PyProof.Rows L2
section
variable {κ α:Type}{A:LS}
end
instance:Enc WorldT:=⟨λ w=>.list [.list (w.apE.map Enc.enc),.list (w.apF.map Enc.enc),.list (w.apw.map Enc.enc)]⟩
class Sl (α:Type)[Enc α] where
 sl:∀ x:α,scal (Enc.enc x)=true
instance:Sl Int:=⟨λ _=>rfl⟩
instance:Sl Tx:=⟨λ _=>rfl⟩
instance:Sl Bool:=⟨λ _=>rfl⟩
instance:Sl Unit:=⟨λ _=>rfl⟩
instance {α:Type}[Enc α][Sl α]:Sl (Option α):=⟨λ x=>match x with
 | none=>rfl
 | some a=>Sl.sl a⟩
class Fl (α:Type)[Enc α] where
 fl:∀ x:α,flat (Enc.enc x)=true
theorem afE {d:D}(h:scal d=true):flat d=true:=by
 cases d with
 | tuple _=>cases h
 | _=>exact h
instance (priority:=low){α:Type}[Enc α][Sl α]:Fl α:=⟨λ x=>afE (Sl.sl x)⟩
instance {α β:Type}[Enc α][Enc β][Sl α][Sl β]:Fl (α×β):=⟨λ p=>by
 show([Enc.enc p.1,Enc.enc p.2]:List D).all scal=true
 simp[Sl.sl]⟩
instance {α β γ:Type}[Enc α][Enc β][Enc γ][Sl α][Sl β][Sl γ]:Fl (Tp3 α β γ):=⟨λ p=>by
 show([Enc.enc p.a,Enc.enc p.b,Enc.enc p.c]:List D).all scal=true
 simp[Sl.sl]⟩
instance {α β γ δ:Type}[Enc α][Enc β][Enc γ][Enc δ][Sl α][Sl β][Sl γ][Sl δ]:Fl (Tp4 α β γ δ):=⟨λ p=>by
 show([Enc.enc p.a,Enc.enc p.b,Enc.enc p.c,Enc.enc p.d]:List D).all scal=true
 simp[Sl.sl]⟩
section
variable {ε ε' α β γ δ κ ω:Type}{A A2:LS}{t:T ε β}{F:β->ω}{B:β->LS}{X:ε->LS}
end
end VS
noncomputable section
namespace Ty
open PySem VS L2
section
variable {ds:List Wd}{m:MootT}{w:WorldT}
end
section
variable {ds:List Wd}{m:MootT}{w:WorldT}
end
section
variable {ds:List Wd}{m:MootT}{w:WorldT}
end
end Ty
namespace VS
open PySem PySem.Spec PyProof.Rows L2
section
variable {ω β γ δ ε:Type}{A:LS}{t:T ε β}{F:β->ω}{B:β->LS}{X:ε->LS}{i j:Nat}{as:List Aw}{gk:LS->R D}{g0 g1:LS->R O}{K:Kont ω}
end
end VS
noncomputable section
namespace Ty
open PySem VS L2
section
variable {ds:List Wd}{m:MootT}{w:WorldT}
end
end Ty
namespace VS
open PySem PySem.Spec L2 TL
def fineS (z:Str):Prop:=∀ c∈z.cps.toList,c < 1114112
theorem Tx.fine (x:Tx):fineS x.s:=λ c h=>by
 rw[Tx.s_list]at h;obtain⟨d,_,rfl⟩:=List.mem_map.mp h;exact d.isLt
def Tx.ofS (z:Str):Tx:=Tx.of z.cps.toList
theorem Tx.ofS_s {z:Str}(h:fineS z):(Tx.ofS z).s=z:=Tx.of_s h
theorem Tx.s_ofS (x:Tx):Tx.ofS x.s=x:=Tx.s_inj (Tx.ofS_s x.fine)
theorem yP {S:List Nat}:∀ (l:List Nat) (k:Nat) (acc p:List Nat),p∈spl S k acc l->∀ c∈p,c∈acc∨c∈l
 | [],k,acc,p,h,c,hc=>by
  rw[spl_nil]at h
  cases List.mem_singleton.mp h
  exact .inl hc
 | d::r,0,acc,p,h,c,hc=>by
  cases hp:pre S (d::r) with
  | true =>
   rw[spl_hit hp]at h;rcases List.mem_cons.mp h with rfl | h
   ·exact .inl hc
   ·rcases yP r _ [] p h c hc with q | q
    ·cases q
    ·exact .inr (List.mem_cons_of_mem _ q)
  | false =>
   rw[spl_miss hp]at h;rcases yP r 0 (acc++[d]) p h c hc with q | q
   ·rcases List.mem_append.mp q with q | q
    ·exact .inl q
    ·exact .inr (by rw[List.mem_singleton.mp q];exact List.mem_cons_self)
   ·exact .inr (List.mem_cons_of_mem _ q)
 | d::r,k+1,acc,p,h,c,hc=>by
  rcases yP r k acc p h c hc with q | q
  ·exact .inl q
  ·exact .inr (List.mem_cons_of_mem _ q)
theorem ac5 {x y:Str}(hx:fineS x)(hy:tl y≠[])(hk:y.cps.all (· < 256)=true):∀ p∈Txt.split x y,fineS p:=λ p hp c hc=>by
 have e:=split_spl x y hy (kind_ok hk)
 have h1:tl p∈spl (tl y) 0 [] (tl x):=by
  rw[←e];exact List.mem_map_of_mem hp
 rcases yP _ _ _ _ h1 c hc with q | q
 ·cases q
 ·exact hx c q
def splitT (x y:Tx):Option (List Tx):=if(y.s.length == 0)=false/\x.s.length+2<=sizeLine then some ((Txt.split x.s y.s).map Tx.ofS) else none
theorem abk {y:Tx}(h:(y.cs.all λ c=>decide (c.val < 256))=true):y.s.cps.all (· < 256)=true:=by
 rw[←Array.all_toList,Tx.s_list,List.all_map];exact h
theorem abl {x y:Tx}(hy:tl y.s≠[])(hk':(y.cs.all λ c=>decide (c.val < 256))=true):dSplit (Enc.enc x) (Enc.enc y)=(splitT x y).map λ z=>S.ol (z.map Enc.enc):=by
 have hk:=abk hk'
 show(if(y.s.length == 0)=false/\x.s.length+2<=sizeLine then some (S.ol ((Txt.split x.s y.s).map PyData.str)) else none)=_;unfold splitT
 by_cases h:(y.s.length == 0)=false/\x.s.length+2<=sizeLine
 ·rw[if_pos h,if_pos h];show _=some (S.ol (((Txt.split x.s y.s).map Tx.ofS).map Enc.enc));rw[List.map_map]
  congr 2
  refine List.map_congr_left λ p hp=>?_;show PyData.str p=PyData.str (Tx.ofS p).s;rw[Tx.ofS_s (ac5 x.fine hy hk p hp)]
 ·rw[if_neg h,if_neg h]
  rfl
def tabT (rows:List (Str×Str))(x:Tx):Option Tx:=(rows.lookup x.s).map Tx.ofS
theorem lookup_mem {rows:List (Str×Str)}{x y:Str}(h:rows.lookup x=some y):∃ k,(k,y)∈rows:=by
 induction rows with
 | nil=>cases h
 | cons r rs ih =>
  obtain⟨k,v⟩:=r;rw[List.lookup_cons]at h
  split at h
  ·cases h
   exact⟨k,List.mem_cons_self⟩
  ·obtain⟨k',h'⟩:=ih h;exact⟨k',List.mem_cons_of_mem _ h'⟩
theorem aoO {rows:List (Str×Str)}(hr:(rows.all λ r=>decide ((Tx.ofS r.2).s=r.2))=true)(x:Tx):dTab rows (Enc.enc x)=(tabT rows x).map Enc.enc:=by
 show(rows.lookup x.s).map PyData.str=((rows.lookup x.s).map Tx.ofS).map Enc.enc
 cases h:rows.lookup x.s with
 | none=>rfl
 | some y =>
  obtain⟨k,hk⟩:=lookup_mem h
  have e:(Tx.ofS y).s=y:=of_decide_eq_true (List.all_eq_true.mp hr _ hk)
  show some (PyData.str y)=some (PyData.str (Tx.ofS y).s);rw[e]
end VS
namespace Ty
open PySem VS L2
section
variable {ε α β γ ω:Type}{A:LS}{t:T ε β}{F:β->ω}{B:β->LS}{X:ε->LS}
def splK (gb:LS->R D)(d:D)(L1:LS):R S:=match d with
 | .str a=>(gb L1).bind λ e L2=>ofO (dSplit (.str a) e) L2
 | _=>.stuck
theorem abm {ga gb:LS->R D}{k:S->LS->R ω}(h:SK A (λ L=>(ga L).bind λ d L1=>(splK gb d L1).bind k) t F B X):SK A (λ L=>(gSplit ga gb L).bind k) t F B X:=iI (k:=splK gb) h
theorem abn {gb:LS->R D}{k:S->LS->R ω}{x:Tx}(h:SK A (λ L=>(gb L).bind λ e L2=>(ofO (dSplit (Enc.enc x) e) L2).bind k) t F B X):SK A (λ L1=>(splK gb (Enc.enc x) L1).bind k) t F B X:=iI (k:=λ e L2=>ofO (dSplit (Enc.enc x) e) L2) h
end
end Ty
noncomputable section
namespace Ty
open PySem VS Lw L2
end Ty
namespace Ty
open PySem VS L2
section
variable {ns:List Tx}{ds:List Wd}{m:MootT}
end
section
variable {ns:List Tx}{ds:List Wd}{m:MootT}{a b c d f:Tx}
end
section
variable {ns:List Tx}{ds:List Wd}{m:MootT}{a b c d f:Tx}
variable {z:Tx}{D M F:Int}
end
section
variable {ns:List Tx}{ds:List Wd}{m:MootT}{a b c d f z:Tx}{D M F:Int}
end
end Ty
namespace Ty
open PySem PySem.Spec VS L2 TL
section
variable {ns:List Tx}{ds:List Wd}{m:MootT}{a b c d f z:Tx}{D M F:Int}
end
end Ty
namespace VS
open PySem PySem.Spec L2 TL
def strI (n:Int):Option Tx:=if n.natAbs.log2 < 1920 then some (tx (toString n)) else none
theorem aoR (n:Int):dStr (Enc.enc n)=(strI n).map Enc.enc:=by
 show(if n.natAbs.log2 < 1920 then some (PyData.str (toString n)) else none)=_;unfold strI
 by_cases h:n.natAbs.log2 < 1920
 ·rw[if_pos h,if_pos h];show some (PyData.str (Str.ofString (toString n)))=some (PyData.str (tx (toString n)).s);rw[amF]
 ·rw[if_neg h,if_neg h]
  rfl
def strU:Un->Option Tx
 | .i n=>strI n
 | .t x=>some x
 | _=>none
theorem aoS (u:Un):dStr (Enc.enc u)=(strU u).map Enc.enc:=by
 cases u with
 | i n=>exact aoR n
 | t x=>rfl
 | l xs=>rfl
 | o=>rfl
def idxT (xs:List Tx)(k:Tx):Option Int:=(xs.findIdx? λ y=>decide (y=k)).map λ j=>((j:Nat):Int)
theorem am7 (xs:List Tx)(k:Tx):dIdx (Enc.enc xs) (Enc.enc k)=(idxT xs k).map Enc.enc:=by
 show(strsOf (xs.map Enc.enc)).bind (λ ys=>(txIdx k.s ys).map λ j=>PyData.int (j:Nat))=_;rw[pO];show(txIdx k.s (xs.map Tx.s)).map (λ j=>PyData.int ((j:Nat):Int))=_;unfold txIdx idxT;rw[List.findIdx?_map]
 have e:((λ y=>y == k.s)∘Tx.s)=λ y=>decide (y=k):=by
  funext y
  show(y.s == k.s)=decide (y=k)
  by_cases h:y=k
  ·subst h
   simp
  ·rw[decide_eq_false h];exact beq_false_of_ne λ q=>h (Tx.s_inj q)
 rw[e,Option.map_map]
 rfl
theorem aao {S:List Nat}:∀ {ps:List (List Nat)} {c:Nat},c∈joinL S ps->c∈S∨∃ p∈ps,c∈p
 | [],c,h=>by cases h
 | [p],c,h=>.inr ⟨p,List.mem_singleton.mpr rfl,h⟩
 | p::q::r,c,h=>by
  have h:c∈p++(S++joinL S (q::r)):=h
  rcases List.mem_append.mp h with h | h
  ·exact .inr ⟨p,List.mem_cons_self,h⟩
  rcases List.mem_append.mp h with h | h
  ·exact .inl h
  rcases aao h with h | ⟨p',h1,h2⟩
  ·exact .inl h
  ·exact .inr ⟨p',List.mem_cons_of_mem _ h1,h2⟩
theorem afG (z:Tx)(xs:List Tx):fineS (Txt.join z.s (xs.map Tx.s)):=λ c hc=>by
 rw[join_eq]at hc
 have h2:c∈joinL (tl z.s) ((xs.map Tx.s).map tl):=by
  rw[←tl_join];exact hc
 rcases aao h2 with h | ⟨p,h1,h2⟩
 ·exact z.fine c h
 ·obtain⟨y,hy,rfl⟩:=List.mem_map.mp h1;obtain⟨x,_,rfl⟩:=List.mem_map.mp hy;exact x.fine c h2
def joinT (z:Tx)(xs:List Tx):Option Tx:=if joinOk z.s (xs.map Tx.s) then some (Tx.ofS (Txt.join z.s (xs.map Tx.s))) else none
theorem afH (z:Tx)(xs:List Tx):dJoin (.str z.s) (Enc.enc xs)=(joinT z xs).map Enc.enc:=by
 show(strsOf (xs.map Enc.enc)).bind (λ ys=>if joinOk z.s ys then some (PyData.str (Txt.join z.s ys)) else none)=_;rw[pO];show(if joinOk z.s (xs.map Tx.s) then some (PyData.str (Txt.join z.s (xs.map Tx.s))) else none)=_;unfold joinT
 split
 ·show _=some (PyData.str (Tx.ofS _).s);rw[Tx.ofS_s (afG z xs)]
 ·rfl
def ninTx (x y:Tx):Option Bool:=match x.cs with
 | [c]=>some (!decide (c∈y.cs))
 | _=>none
theorem aoT (x y:Tx):dNotIn (Enc.enc x) (Enc.enc y)=(ninTx x y).map Enc.enc:=by
 obtain⟨cs⟩:=x;show((if(Tx.mk cs).s.length=1 then some (decide ((Tx.mk cs).s.cps.getD 0 0∈y.s.cps.toList)) else none).map λ b=>PyData.bool (!b))=_
 match cs with
 | []=>rfl
 | [c] =>
  rw[if_pos (show(Tx.mk [c]).s.length=1 from rfl)];show some (PyData.bool (!decide (c.val∈y.s.cps.toList)))=some (PyData.bool (!decide (c∈y.cs)))
  have:(c.val∈y.s.cps.toList)↔c∈y.cs:=by
   rw[Tx.s_list,List.mem_map];exact⟨λ⟨d,h1,h2⟩=>Fin.ext h2 ▸ h1,λ h=>⟨c,h,rfl⟩⟩
  rw[decide_eq_decide.mpr this]
 | c::d::cs =>
  rw[if_neg (by rw[Tx.s_len];simp)]
  rfl
def intT (x:Tx):Option Int:=if x.s.length<=640 then PySem.intText? x.s else none
theorem am8 (x:Tx):dIntS (Enc.enc x)=(intT x).map Enc.enc:=by
 show(if x.s.length<=640 then(PySem.intText? x.s).map PyData.int else none)=_;unfold intT
 split
 ·rfl
 ·rfl
section
variable {α β:Type}[Enc α][Enc β]
def encs (xs:List α):List D:=xs.map Enc.enc
theorem afI (xs:List α):(encs xs).map (Enc.enc:D->D)=xs.map Enc.enc:=by
 show(xs.map Enc.enc).map (λ d:D=>d)=_;rw[List.map_map]
 rfl
theorem am9 (xs:List α)(ys:List β):dAdd (Enc.enc xs) (Enc.enc ys)=(catT (encs xs) (encs ys)).map λ z=>S.ol (z.map Enc.enc):=by
 rw[←yr];rw[afI,afI]
 rfl
theorem aiC (xs:List Un)(ys:List (List Tx)):dAdd (Enc.enc xs) (Enc.enc ys)=(catT xs (ys.map Un.l)).map λ z=>S.ol (z.map Enc.enc):=by
 rw[←yr,List.map_map]
 rfl
end
def inND (ds:List D):Option Bool:=if inOk .none ds then some (ds.any λ z=>z.eqv .none) else none
theorem aoU (ds:List D):dIn (Enc.enc ()) (Enc.enc ds)=(inND ds).map Enc.enc:=by
 show(dInB .none (.list (ds.map λ d=>d))).map PyData.bool=_;rw[List.map_id'];show(if inOk .none ds then some (ds.any λ z=>z.eqv .none) else none).map PyData.bool=_
 rfl
def neDL (xs ys:List D):Option Bool:=if eqOk (.list xs) (.list ys) then some (!(PyData.list xs).eqv (.list ys)) else none
theorem apl (xs ys:List D):dNe (Enc.enc xs) (Enc.enc ys)=(neDL xs ys).map Enc.enc:=by
 show dNe (.list (xs.map λ d=>d)) (.list (ys.map λ d=>d))=_;rw[List.map_id',List.map_id'];show(if eqOk (.list xs) (.list ys) then some (PyData.bool (!(PyData.list xs).eqv (.list ys))) else none)=_;unfold neDL
 split<;>rfl
theorem afJ (xs:List Un):dTupL (Enc.enc xs)=some (Enc.enc (DeedT.mk xs)):=rfl
theorem aoV (xs:List D):dTupL (Enc.enc xs)=some (PyData.tuple xs):=by
 show some (PyData.tuple (xs.map λ d=>d))=_;rw[List.map_id']
def replT (y z:Str)(x:Tx):Tx:=Tx.ofS (Txt.replace x.s y z)
abbrev replOk (y z:Str)(x:Tx):Prop:=(Tx.ofS (Txt.replace x.s y z)).s=Txt.replace x.s y z/\x.s.length+(x.s.length+1) * z.length<=16777216
end VS
namespace Ty
open PySem VS L2
section
variable {ε α β γ ω κ:Type}{A:LS}{t:T ε β}{F:β->ω}{B:β->LS}{X:ε->LS}
theorem ana {y z:Str}{x:Tx}{k:D->LS->R ω}(h:SK A (k (Enc.enc (replT y z x))) t F B X):SK A (λ L=>(ofO (dReplC y z (Enc.enc x)) L).bind k) (T.gd (replOk y z x) t) F B X:=aoE λ hn L hL=>by
 have h:=h L hL
 show SimR ((ofO (if x.s.length+(x.s.length+1) * z.length<=16777216 then some (PyData.str (Txt.replace x.s y z)) else none) L).bind k) t F B X;rw[if_pos hn.2,←hn.1];exact h
theorem afK {ga gb:LS->R D}{k:D->LS->R ω}(h:SK A (λ L=>(ga L).bind λ d L1=>(idxL gb d L1).bind k) t F B X):SK A (λ L=>(yf ga gb L).bind k) t F B X:=iI (k:=idxL gb) h
theorem afL {gb:LS->R D}{k:D->LS->R ω}{xs:List Tx}(h:SK A (λ L=>(gb L).bind λ e L2=>(ofO (dIdx (Enc.enc xs) e) L2).bind k) t F B X):SK A (λ L1=>(idxL gb (Enc.enc xs) L1).bind k) t F B X:=iI (k:=λ e L2=>ofO (dIdx (Enc.enc xs) e) L2) h
theorem apa {g:LS->R (List D)}{k:List D->LS->R ω}(h:SK A (λ L=>(g L).bind λ d L1=>(asZg d L1).bind k) t F B X):SK A (λ L=>((g L).bind asZg).bind k) t F B X:=iI h
theorem aiD (x:Tx):zsrc (Enc.enc x)=some ((signsT x).map Enc.enc):=by
 show some (x.s.cps.toList.map λ n=>PyData.str ⟨#[n]⟩)=_;unfold signsT;rw[Tx.s_list,List.map_map,List.map_map]
 rfl
theorem afM {α γ:Type}[Enc α][Enc γ](xs:List α)(ys:List γ):zipD (xs.map Enc.enc) (ys.map Enc.enc)=(xs.zip ys).map (Enc.enc:α×γ->D):=by
 unfold zipD;rw[List.zip_map,List.map_map]
 rfl
theorem aoW {α:Type}[Enc α]{xs:List α}{y:Tx}{k:List D->LS->R ω}(h:SK A (k ((xs.zip (signsT y)).map Enc.enc)) t F B X):SK A (λ L=>(asZg [Enc.enc xs,Enc.enc y] L).bind k) t F B X:=λ L hL=>by
 have h:=h L hL
 have e:asZg [Enc.enc xs,Enc.enc y] L=.ok (zipD (xs.map Enc.enc) ((signsT y).map Enc.enc)) L:=by
  show(match zsrc (Enc.enc xs),zsrc (Enc.enc y) with
   | some xs,some ys=>R.ok (zipD xs ys) L
   | _,_=>.stuck)=_
  rw[aiD]
  rfl
 show SimR ((asZg [Enc.enc xs,Enc.enc y] L).bind k) t F B X;rw[e,afM];exact h
theorem aoX {α:Type}[Enc α]{x:Tx}{ys:List α}{k:List D->LS->R ω}(h:SK A (k (((signsT x).zip ys).map Enc.enc)) t F B X):SK A (λ L=>(asZg [Enc.enc x,Enc.enc ys] L).bind k) t F B X:=λ L hL=>by
 have h:=h L hL
 have e:asZg [Enc.enc x,Enc.enc ys] L=.ok (zipD ((signsT x).map Enc.enc) (ys.map Enc.enc)) L:=by
  show(match zsrc (Enc.enc x),zsrc (Enc.enc ys) with
   | some xs,some ys=>R.ok (zipD xs ys) L
   | _,_=>.stuck)=_
  rw[aiD]
  rfl
 show SimR ((asZg [Enc.enc x,Enc.enc ys] L).bind k) t F B X;rw[e,afM];exact h
theorem afN [Enc1 κ]{α:Type}[Enc α]{i:Nat}{d:Dt κ α}{ga gf:LS->R D}{k:D->LS->R ω}(h:A[i]?=some (kv d))(h2:SK A (λ L=>(ga L).bind λ d1 L1=>(gf L1).bind λ e L2=>(getX i d1 e L2).bind k) t F B X):SK A (λ L=>(gDGetX i ga gf L).bind k) t F B X:=λ L hL=>by
 have h2:=h2 L hL
 show SimR ((gDGetX i ga gf L).bind k) t F B X
 have e:gDGetX i ga gf L=(ga L).bind λ d L1=>(gf L1).bind λ e L2=>getX i d e L2:=by
  unfold gDGetX;rw[hL.2 i _ h]
 rw[e,bx]
 have e2:∀ r:R D,(r.bind λ d1 L1=>((gf L1).bind λ e L2=>getX i d1 e L2).bind k)=r.bind λ d1 L1=>(gf L1).bind λ e L2=>(getX i d1 e L2).bind k:=λ r=>by
  cases r with
  | stuck=>rfl
  | err c L1=>rfl
  | ok d1 L1=>exact bx ..
 rw[e2];exact h2
end
section
variable {ε β ω κ α:Type}{A:LS}{t:T ε β}{F:β->ω}{B:β->LS}{X:ε->LS}
theorem aiE [DecidableEq κ][Enc κ][Enc1 κ][KD1 κ][Enc α]{i:Nat}{d:Dt κ α}{x:κ}{e:Option α}{k:D->LS->R ω}(h:A[i]?=some (kv d))(h2:SK A (k (Enc.enc ((dget d x).or e))) t F B X):SK A (λ L=>(getX i (Enc.enc x) (Enc.enc e) L).bind k) t F B X:=λ L hL=>by
 have h2:=h2 L hL
 show SimR ((match dictAt L[i]? (Enc.enc x) with
  | some r=>R.ok (r.getD (Enc.enc e)) L
  | none=>.stuck).bind k) t F B X
 rw[ahG (hL.2 i _ h)]
 cases hd:dget d x with
 | none =>
  rw[hd]at h2;exact h2
 | some z =>
  rw[hd]at h2;exact h2
end
section
variable {ε α β ω:Type}{A:LS}{t:T ε β}{F:β->ω}{B:β->LS}{X:ε->LS}
end
end Ty
namespace VS
open PySem PySem.Spec
def T.lcMR {ε α β:Type}:List α->List β->(α->T ε (Option β))->T ε (List β)
 | [],acc,_=>.ok acc
 | x::xs,acc,f=>match f x with
  | .ok (some y)=>T.gd (acc.length < sizeLine) (T.lcMR xs (acc++[y]) f)
  | .ok none=>T.lcMR xs acc f
  | .er k z=>.er k z
  | .no=>.no
def T.lcsR {ε α β:Type}(xs:List α)(f:α->T ε (Option β)):T ε (List β):=T.lcMR xs [] f
def lcQR (vs:List Nat)(f:D->LS->Option LS)(gt:LS->R Bool)(ge:LS->R D)(ds:List D)(L1:LS):R S:=lcGoR vs f gt ge ds [] (wipeL L1 vs)
section
variable {ω α β γ ε:Type}{A:LS}{F:β->ω}{B:β->LS}{X:ε->LS}{t:T ε β}
theorem aiF {vs:List Nat}{gi:LS->R (List D)}{f:D->LS->Option LS}{gt:LS->R Bool}{ge:LS->R D}{k:S->LS->R ω}(h:SK A (λ L=>(gi L).bind λ ds L1=>(lcQR vs f gt ge ds L1).bind k) t F B X):SK A (λ L=>(gLcR vs gi f gt ge L).bind k) t F B X:=iI h
theorem aiG [Enc γ]{vs:List Nat}{f:D->LS->Option LS}{ge:LS->R D}{e:α->D}{A0:LS}{A1:α->LS}{Bv:LS}{Xe:ε->LS}{tb:α->T ε (Option γ)}(hf:∀ x,Tg A0 f (e x) (A1 x))
  (hb:∀ x,SK (A1 x) (lcBody gYes ge) (tb x) (λ p=>p.map Enc.enc) (λ _=>Bv) Xe) (hw:Mt A0 (wipeL Bv vs)) (hx:∀ z,Mt (X z) (wipeL (Xe z) vs)) :
  ∀ (xs:List α) (acc:List γ),SK A0 (lcGoR vs f gYes ge (xs.map e) (acc.map Enc.enc)) (T.lcMR xs acc tb) (λ p:List γ=>S.ol (p.map Enc.enc)) (λ _=>A0) X
 | [],acc=>λ L hL=>⟨L,rfl,hL⟩
 | x::xs,acc=>λ L hL=>by
  obtain⟨L1,h1,h2⟩:=hf x L hL
  have h3:=hb x L1 h2
  have ih:=aiG hf hb hw hx xs
  rw[List.map_cons];unfold T.lcMR;unfold lcGoR;rw[h1]
  show SimR (match ge L1 with
     | .ok y L3=>if(acc.map Enc.enc).length < sizeLine then lcGoR vs f gYes ge (xs.map e) (acc.map Enc.enc++[y]) (wipeL L3 vs) else .stuck
     | .err k L3=>.err k (wipeL L3 vs)
     | .stuck=>.stuck) _ _ _ _
  have hl:lcBody gYes ge L1=(ge L1).bind λ y L2=>(R.ok (some y) L2:R (Option D)):=rfl
  rw[hl]at h3
  cases ht:tb x with
  | no=>trivial
  | er c z =>
   rw[ht]at h3;obtain⟨L3,h4,h5⟩:=h3
   cases hge:ge L1 with
   | stuck=>rw[hge]at h4;cases h4
   | ok y L4=>rw[hge]at h4;cases h4
   | err c' L4 =>
    rw[hge]at h4
    injection h4 with h6 h7
    subst h6 h7
    exact⟨_,rfl,(hx z).trans (h5.wipe vs)⟩
  | ok o =>
   rw[ht]at h3;obtain⟨L3,h4,h5⟩:=h3
   cases hge:ge L1 with
   | stuck=>rw[hge]at h4;cases h4
   | err c' L2=>rw[hge]at h4;cases h4
   | ok y L4 =>
    rw[hge]at h4
    injection h4 with h6 h7
    cases o with
    | none=>cases h6
    | some y' =>
     subst h7
     have hy:y=Enc.enc y':=Option.some.inj h6
     subst hy
     show SimR (if(acc.map Enc.enc).length < sizeLine then lcGoR vs f gYes ge (xs.map e) (acc.map Enc.enc++[Enc.enc y']) (wipeL L4 vs) else .stuck) (T.gd (acc.length < sizeLine) (T.lcMR xs (acc++[y']) tb)) _ _ _;unfold T.gd;rw[List.length_map]
     by_cases hs:acc.length < sizeLine
     ·rw[if_pos hs,if_pos hs]
      have:=ih (acc++[y']) _ (hw.trans (h5.wipe vs))
      rw[List.map_append]at this;exact this
     ·rw[if_neg hs,if_neg hs]
      trivial
theorem aiH [Enc γ]{vs:List Nat}{f:D->LS->Option LS}{ge:LS->R D}{e:α->D}{xs:List α}{k:S->LS->R ω}(A0:LS)(A1:α->LS)(Bv:LS)(Xe:ε->LS){tb:α->T ε (Option γ)}{t':List γ->T ε β}(h0:Mt A0 (wipeL A vs))(hf:∀ x,Tg A0 f (e x) (A1 x))
  (hb:∀ x,SK (A1 x) (lcBody gYes ge) (tb x) (λ p=>p.map Enc.enc) (λ _=>Bv) Xe) (hw:Mt A0 (wipeL Bv vs)) (hx:∀ z,Mt (X z) (wipeL (Xe z) vs)) (h2:∀ ys,SK A0 (k (.ol (ys.map Enc.enc))) (t' ys) F B X) :
  SK A (λ L=>(lcQR vs f gYes ge (xs.map e) L).bind k) ((T.lcsR xs tb).bind t') F B X:=λ L hL=>by
 have h1:=aiG (X:=X) hf hb hw hx xs [] (wipeL L vs) (h0.trans (hL.wipe vs))
 show SimR ((lcGoR vs f gYes ge (xs.map e) [] (wipeL L vs)).bind k) ((T.lcMR xs [] tb).bind t') F B X
 cases ht:(T.lcMR xs [] tb) with
 | no=>trivial
 | er c z =>
  rw[ht]at h1;obtain⟨L3,h4,h5⟩:=h1;rw[List.map_nil]at h4;rw[h4];exact⟨_,rfl,h5⟩
 | ok ys =>
  rw[ht]at h1;obtain⟨L3,h4,h5⟩:=h1;rw[List.map_nil]at h4;rw[h4];exact h2 ys _ h5
theorem akX {f:α->T ε (Option β)}{g:α->β}{xs:List α}(hs:xs.length<=1000000)(h:∀ x∈xs,f x=.ok (some (g x))):T.lcsR xs f=.ok (xs.map g):=by
 have key:∀ (xs:List α) (acc:List β),acc.length+xs.length<=1000000->(∀ x∈xs,f x=.ok (some (g x)))->T.lcMR xs acc f=.ok (acc++xs.map g):=by
  intro xs
  induction xs with
  | nil=>intro acc _ _;simp[T.lcMR]
  | cons x xs ih =>
   intro acc hl hh;rw[List.length_cons]at hl;unfold T.lcMR;rw[hh x List.mem_cons_self];show T.gd (acc.length < sizeLine) (T.lcMR xs (acc++[g x]) f)=_;rw[T.gd_of (by have:sizeLine=16777216:=sizeLine_eq;omega),ih _ (by rw[List.length_append];simp;omega) (λ y hy=>hh y (List.mem_cons_of_mem _ hy))]
   simp
 have:=key xs [] (by simpa using hs) h
 simpa [T.lcsR] using this
theorem akY {f:α->T ε (Option β)}{g:α->β}{c:Nat}{z:ε}{as bs:List α}{x:α}(hs:as.length<=1000000)(h:∀ x∈as,f x=.ok (some (g x)))(hx:f x=.er c z):T.lcsR (as++x::bs) f=.er c z:=by
 have key:∀ (as:List α) (acc:List β),acc.length+as.length<=1000000->(∀ x∈as,f x=.ok (some (g x)))->T.lcMR (as++x::bs) acc f=.er c z:=by
  intro as
  induction as with
  | nil=>intro acc _ _;show T.lcMR (x::bs) acc f=_;unfold T.lcMR;rw[hx]
  | cons y ys ih =>
   intro acc hl hh;rw[List.length_cons]at hl;show T.lcMR (y::(ys++x::bs)) acc f=_;unfold T.lcMR;rw[hh y List.mem_cons_self];show T.gd (acc.length < sizeLine) (T.lcMR (ys++x::bs) (acc++[g y]) f)=_;rw[T.gd_of (by have:sizeLine=16777216:=sizeLine_eq;omega)];exact ih _ (by rw[List.length_append];simp;omega) (λ w hw=>hh w (List.mem_cons_of_mem _ hw))
 exact key as [] (by simpa using hs) h
end
end VS
noncomputable section
namespace Ty
open PySem VS Lw L2
def jB (word:Tx):T Empty ((Option Tx)) :=
 .ok ((dget (([((tx "come"),((tx "abb"):Tx)),((tx "rise"),((tx "abb"):Tx)),((tx "die"),((tx "aba"):Tx)),((tx "penance"),((tx "a"):Tx)),((tx "bring"),((tx "ab"):Tx)),((tx "give"),((tx "baab"):Tx))]:Dt Tx Tx):(Dt Tx Tx)) word).or ((dget (([((tx "pay"),((tx "aabb"):Tx)),((tx "claim"),((tx "abbb+"):Tx)),((tx "wergild"),((tx "aabbb+"):Tx)),((tx "accuse"),((tx "babb+"):Tx))]:Dt Tx Tx):(Dt Tx Tx)) word).or (none:(Option Tx))))
theorem xm (word:Tx):SK [dv word] Lw.jK (jB word) (λ r=>(S.d (Enc.enc r))) (λ r=>[none]) XV:=by
 unfold Lw.jK Lw.wO jB;refine oH (X':=XV) ?_ dC;show SK [dv word,none,none] _ _ _ _ _;refine bB ?_;refine s_asg ?_;refine aJ (acp (l:=([((tx "come"),((tx "abb"):Tx)),((tx "rise"),((tx "abb"):Tx)),((tx "die"),((tx "aba"):Tx)),((tx "penance"),((tx "a"):Tx)),((tx "bring"),((tx "ab"):Tx)),((tx "give"),((tx "baab"):Tx))]:Dt Tx Tx)) (jR (aQ "come") (aQ "abb") (jR (aQ "rise") (aQ "abb") (jR (aQ "die") (aQ "aba") (jR (aQ "penance") (aQ "a") (jR (aQ "bring") (aQ "ab") (jR (aQ "give") (aQ "baab") afB)))))) (by decide) (by decide)) ?_;refine dW rfl ?_;refine aO ?_;refine bB ?_;refine s_asg ?_;refine aJ (acp (l:=([((tx "pay"),((tx "aabb"):Tx)),((tx "claim"),((tx "abbb+"):Tx)),((tx "wergild"),((tx "aabbb+"):Tx)),((tx "accuse"),((tx "babb+"):Tx))]:Dt Tx Tx)) (jR (aQ "pay") (aQ "aabb") (jR (aQ "claim") (aQ "abbb+") (jR (aQ "wergild") (aQ "aabbb+") (jR (aQ "accuse") (aQ "babb+") afB)))) (by decide) (by decide)) ?_;refine dW rfl ?_;refine aO ?_;refine s_ret ?_;refine e_d ?_;refine afN (d:=(([((tx "come"),((tx "abb"):Tx)),((tx "rise"),((tx "abb"):Tx)),((tx "die"),((tx "aba"):Tx)),((tx "penance"),((tx "a"):Tx)),((tx "bring"),((tx "ab"):Tx)),((tx "give"),((tx "baab"):Tx))]:Dt Tx Tx):(Dt Tx Tx))) (by rfl) ?_;refine aJ (aZ (by rfl)) ?_;refine afN (d:=(([((tx "pay"),((tx "aabb"):Tx)),((tx "claim"),((tx "abbb+"):Tx)),((tx "wergild"),((tx "aabbb+"):Tx)),((tx "accuse"),((tx "babb+"):Tx))]:Dt Tx Tx):(Dt Tx Tx))) (by rfl) ?_;refine aJ (aZ (by rfl)) ?_;refine aJ dw ?_;refine aiE (d:=(([((tx "pay"),((tx "aabb"):Tx)),((tx "claim"),((tx "abbb+"):Tx)),((tx "wergild"),((tx "aabbb+"):Tx)),((tx "accuse"),((tx "babb+"):Tx))]:Dt Tx Tx):(Dt Tx Tx))) (x:=word) (e:=(none:(Option Tx))) (by rfl) ?_;refine aiE (d:=(([((tx "come"),((tx "abb"):Tx)),((tx "rise"),((tx "abb"):Tx)),((tx "die"),((tx "aba"):Tx)),((tx "penance"),((tx "a"):Tx)),((tx "bring"),((tx "ab"):Tx)),((tx "give"),((tx "baab"):Tx))]:Dt Tx Tx):(Dt Tx Tx))) (x:=word) (e:=((dget (([((tx "pay"),((tx "aabb"):Tx)),((tx "claim"),((tx "abbb+"):Tx)),((tx "wergild"),((tx "aabbb+"):Tx)),((tx "accuse"),((tx "babb+"):Tx))]:Dt Tx Tx):(Dt Tx Tx)) word).or (none:(Option Tx)))) (by rfl) ?_;exact lM rfl (bF ak)
def iz (src:SrcT):T Empty (Int×SrcT) :=
 (iW src ((4:Int))).bind λ(r1,src2) =>
 if(decide (r1=(0:Int)))=true then((iW src2 ((6:Int))).bind λ(r3,src4) =>
 (T.ofO (atI (([(0:Int),(9:Int),(10:Int),(999999999:Int),(100000000:Int),(99:Int)]:List Int):(List Int)) r3)).bind λ x5 =>
 .ok (x5,src4)) else(if(decide (r1=(1:Int)))=true then((iW src2 ((1000000000:Int))).bind λ(r6,src7) =>
 .ok (r6,src7)) else((iW src2 ((30:Int))).bind λ(r8,src9) =>
 .ok (r8,src9)))
theorem vU (src:SrcT):SK [some src.1] Lw.ig (iz src) (λ r=>(S.d (Enc.enc r.1))) (λ r=>[some r.2.1]) XV:=by
 unfold Lw.ig Lw.oX iz;refine oH (X':=XV) ?_ dC;show SK [some src.1,none] _ _ _ _ _;refine bB ?_;refine s_asg ?_;refine bQ ?_;refine a_r (by rfl) ?_;refine a_d ?_;refine aJ (dw (d:=Enc.enc (4:Int))) ?_;refine d9 ?_;refine bR (by show List.Nodup [0];decide) rfl (jX src ((4:Int))) dC ?_;rintro⟨r1,src2⟩;show SK [some src2.1,none] _ _ _ _ _;refine dW rfl ?_;refine aO ?_;refine bB ?_;refine s_if (x:=(decide (r1=(0:Int)))) (qW (iH (z:=(Enc.enc ((decide (r1=(0:Int))):Bool))) (aC (by rfl)) (dw (d:=Enc.enc (0:Int))) (jW r1 ((0:Int))))) ?_ ?_
 ·refine s_ret ?_;refine e_d ?_;refine lB ?_;refine aJ (jH (rR (bL (dw (d:=Enc.enc (0:Int))) (bL (dw (d:=Enc.enc (9:Int))) (bL (dw (d:=Enc.enc (10:Int))) (bL (dw (d:=Enc.enc (999999999:Int))) (bL (dw (d:=Enc.enc (100000000:Int))) (bL (dw (d:=Enc.enc (99:Int))) ir)))))) (ln (n:=6) rfl))) ?_;refine jg ?_;refine bQ ?_;refine a_r (by rfl) ?_;refine a_d ?_;refine aJ (dw (d:=Enc.enc (6:Int))) ?_;refine d9 ?_;refine bR (by show List.Nodup [0];decide) rfl (jX src2 ((6:Int))) dC ?_;rintro⟨r3,src4⟩;show SK [some src4.1,dv r1] _ _ _ _ _;refine cZ ?_;refine gH (p:=atI (([(0:Int),(9:Int),(10:Int),(999999999:Int),(100000000:Int),(99:Int)]:List Int):(List Int)) r3) (f:=Enc.enc) (aaH (([(0:Int),(9:Int),(10:Int),(999999999:Int),(100000000:Int),(99:Int)]:List Int):(List Int)) r3) (λ x5=>?_);exact lM rfl (fu ak)
 refine dX ?_;refine aO ?_;refine bB ?_;refine s_if (x:=(decide (r1=(1:Int)))) (qW (iH (z:=(Enc.enc ((decide (r1=(1:Int))):Bool))) (aC (by rfl)) (dw (d:=Enc.enc (1:Int))) (jW r1 ((1:Int))))) ?_ ?_
 ·refine s_ret ?_;refine bQ ?_;refine a_r (by rfl) ?_;refine a_d ?_;refine aJ (dw (d:=Enc.enc (1000000000:Int))) ?_;refine d9 ?_;refine bR (by show List.Nodup [0];decide) rfl (jX src2 ((1000000000:Int))) dC ?_;rintro⟨r6,src7⟩;show SK [some src7.1,dv r1] _ _ _ _ _;exact lM rfl (fu ak)
 refine dX ?_;refine aO ?_;refine s_ret ?_;refine bQ ?_;refine a_r (by rfl) ?_;refine a_d ?_;refine aJ (dw (d:=Enc.enc (30:Int))) ?_;refine d9 ?_;refine bR (by show List.Nodup [0];decide) rfl (jX src2 ((30:Int))) dC ?_;rintro⟨r8,src9⟩;show SK [some src9.1,dv r1] _ _ _ _ _;exact lM rfl (fu ak)
def m9 (src:SrcT)(names:(List Tx)):T Empty ((List Tx)×SrcT) :=
 (iW src ((4:Int))).bind λ(r1,src2) =>
 (T.ofO (atI (([(3:Int),(3:Int),(3:Int),(16:Int)]:List Int):(List Int)) r1)).bind λ x3 =>
 (iW src2 x3).bind λ(r4,src5) =>
 T.gd (inR r4) <|
 (T.lc (rangeT (Int.toNat r4)) src5 (λ(i6:Int) src7=>(((iW src7 (((List.length names:Nat):Int):Int)).bind λ(r9,src10) =>
 (T.ofO (atI names r9)).bind λ x11 =>
 .ok ((some x11),src10)):T Empty (Option Tx×(SrcT))))).bind λ(l8,src7) =>
 .ok (l8,src7)
theorem aap (src:SrcT)(names:(List Tx)):SK [some src.1,dv names] Lw.mV (m9 src names) (λ r=>(S.ol (List.map Enc.enc r.1))) (λ r=>[some r.2.1,dv names]) XV:=by
 unfold Lw.mV Lw.z8 m9;refine oH (X':=XV) ?_ dC;show SK [some src.1,dv names,none] _ _ _ _ _;refine s_ret ?_;refine ahH ?_;refine ae0 ?_;refine lC ?_;refine jg ?_;refine bQ ?_;refine a_r (by rfl) ?_;refine a_d ?_;refine lB ?_;refine aJ (jH (rR (bL (dw (d:=Enc.enc (3:Int))) (bL (dw (d:=Enc.enc (3:Int))) (bL (dw (d:=Enc.enc (3:Int))) (bL (dw (d:=Enc.enc (16:Int))) ir)))) (ln (n:=4) rfl))) ?_;refine jg ?_;refine bQ ?_;refine a_r (by rfl) ?_;refine a_d ?_;refine aJ (dw (d:=Enc.enc (4:Int))) ?_;refine d9 ?_;refine bR (by show List.Nodup [0];decide) rfl (jX src ((4:Int))) dC ?_;rintro⟨r1,src2⟩;show SK [some src2.1,dv names,none] _ _ _ _ _;refine cZ ?_;refine gH (p:=atI (([(3:Int),(3:Int),(3:Int),(16:Int)]:List Int):(List Int)) r1) (f:=Enc.enc) (aaH (([(3:Int),(3:Int),(3:Int),(16:Int)]:List Int):(List Int)) r1) (λ x3=>?_);refine d9 ?_;refine bR (by show List.Nodup [0];decide) rfl (jX src2 x3) dC ?_;rintro⟨r4,src5⟩;show SK [some src5.1,dv names,none] _ _ _ _ _;refine cZ ?_;refine aJ ir ?_;refine ae1 (n:=r4) ?_;refine ao9 (e:=Enc.enc) (ε':=Empty) (xs:=((rangeT (Int.toNat r4)):(List Int))) (v:=src5) (λ v=>[some v.1,dv names,none]) (λ i6 v=>[some v.1,dv names,dv i6]) (λ v=>[some v.1,dv names,none]) XV (fu (fu (bF ak))) (λ i6 v=>il) (λ i6 v=>?_) (λ v=>(fu (fu (bF ak)))) (λ l8 v=>?_)
 ·revert v;intro src7;show SK [some src7.1,dv names,dv i6] _ _ _ _ _;refine aip ?_;refine ak8 ?_;refine aJ wX ?_;refine acU ?_;refine oJ (by rfl) ?_;refine jg ?_;refine bQ ?_;refine a_r (by rfl) ?_;refine a_d ?_;refine aJ (wz (z:=(Enc.enc ((List.length names:Nat):Int))) (aC (by rfl)) (aaa _)) ?_;refine d9 ?_;refine bR (by show List.Nodup [0];decide) rfl (jX src7 (((List.length names:Nat):Int))) dC ?_;rintro⟨r9,src10⟩;show SK [some src10.1,dv names,dv i6] _ _ _ _ _;refine cZ ?_;refine aJ (aC (by rfl)) ?_;refine gH (p:=atI names r9) (f:=Enc.enc) (aaH names r9) (λ x11=>?_);exact oZ rfl (fu (fu (bF ak)))
 revert v;intro src7;show SK [some src7.1,dv names,none] _ _ _ _ _;exact lM rfl (fu (fu ak))
def jf (src:SrcT)(names:(List Tx)):T Empty (DeedT×SrcT) :=
 (iW src ((10:Int))).bind λ(r1,src2) =>
 (T.ofO (atI (([(tx "come"),(tx "rise"),(tx "die"),(tx "penance"),(tx "bring"),(tx "give"),(tx "pay"),(tx "claim"),(tx "wergild"),(tx "accuse")]:List Tx):(List Tx)) r1)).bind λ x3 =>
 (jB x3).bind λ r4 =>
 (T.ofO r4).bind λ u5 =>
 (T.forM (signsT u5) ((src2,([(Un.t x3)]:List Un)):SrcT×(List Un)) (λ(i6:Tx) (src9,parts10)=>((if(decide (i6=(tx "a")))=true then((iW src9 (((List.length names:Nat):Int):Int)).bind λ(r11,src12) =>
 (T.ofO (atI names r11)).bind λ x13 =>
 T.gd (parts10.length < sizeLine) <|
 .ok (src12,(parts10++[(Un.t x13)]))) else(if(decide (i6=(tx "b")))=true then((iz src9).bind λ(r14,src15) =>
 T.gd (parts10.length < sizeLine) <|
 .ok (src15,(parts10++[(Un.i r14)]))) else((m9 src9 names).bind λ(r16,src17) =>
 (m9 src17 names).bind λ(r18,src19) =>
 (T.ofO (catT parts10 (List.map Un.l (([r16,r18]:List (List Tx)):(List (List Tx)))))).bind λ x20 =>
 .ok (src19,x20)))):T Empty (SrcT×(List Un))))).bind λ(src9,parts10) =>
 .ok ((DeedT.mk parts10),src9)
theorem wC (src:SrcT)(names:(List Tx)):SK [some src.1,dv names] Lw.iV (jf src names) (λ r=>(S.d (Enc.enc r.1))) (λ r=>[some r.2.1,dv names]) XV:=by
 unfold Lw.iV Lw.pX jf;refine oH (X':=XV) ?_ dC;show SK [some src.1,dv names,none,none,none,none] _ _ _ _ _;refine bB ?_;refine s_asg ?_;refine aJ (rR (bL (aQ "come") (bL (aQ "rise") (bL (aQ "die") (bL (aQ "penance") (bL (aQ "bring") (bL (aQ "give") (bL (aQ "pay") (bL (aQ "claim") (bL (aQ "wergild") (bL (aQ "accuse") ir)))))))))) (ln (n:=10) rfl)) ?_;refine dW rfl ?_;refine aO ?_;refine bB ?_;refine s_asg ?_;refine e_d ?_;refine oJ (by rfl) ?_;refine jg ?_;refine bQ ?_;refine a_r (by rfl) ?_;refine a_d ?_;refine aJ (dw (d:=Enc.enc (10:Int))) ?_;refine d9 ?_;refine bR (by show List.Nodup [0];decide) rfl (jX src ((10:Int))) dC ?_;rintro⟨r1,src2⟩;show SK [some src2.1,dv names,lv (([(tx "come"),(tx "rise"),(tx "die"),(tx "penance"),(tx "bring"),(tx "give"),(tx "pay"),(tx "claim"),(tx "wergild"),(tx "accuse")]:List Tx):(List Tx)),none,none,none] _ _ _ _ _;refine cZ ?_;refine aJ (bD (by rfl)) ?_;refine gH (p:=atI (([(tx "come"),(tx "rise"),(tx "die"),(tx "penance"),(tx "bring"),(tx "give"),(tx "pay"),(tx "claim"),(tx "wergild"),(tx "accuse")]:List Tx):(List Tx)) r1) (f:=Enc.enc) (aaH (([(tx "come"),(tx "rise"),(tx "die"),(tx "penance"),(tx "bring"),(tx "give"),(tx "pay"),(tx "claim"),(tx "wergild"),(tx "accuse")]:List Tx):(List Tx)) r1) (λ x3=>?_);refine dW rfl ?_;refine aO ?_;refine bB ?_;refine s_asg ?_;refine aJ (rR (bL (aZ (by rfl)) ir) (ln (n:=1) rfl)) ?_;refine dW (A':=[some src2.1,dv names,lv (([(tx "come"),(tx "rise"),(tx "die"),(tx "penance"),(tx "bring"),(tx "give"),(tx "pay"),(tx "claim"),(tx "wergild"),(tx "accuse")]:List Tx):(List Tx)),dv x3,lv (([(Un.t x3)]:List Un):(List Un)),none]) rfl ?_;refine aO ?_;refine bB ?_;refine rY ?_;refine lX ?_;refine jg ?_;refine bQ ?_;refine a_d ?_;refine aJ (aZ (by rfl)) ?_;refine d9 ?_;refine bR List.nodup_nil rfl (xm x3) dC ?_;rintro r4;show SK [some src2.1,dv names,lv (([(tx "come"),(tx "rise"),(tx "die"),(tx "penance"),(tx "bring"),(tx "give"),(tx "pay"),(tx "claim"),(tx "wergild"),(tx "accuse")]:List Tx):(List Tx)),dv x3,lv (([(Un.t x3)]:List Un):(List Un)),none] _ _ _ _ _;refine cZ ?_;rcases hhu5:r4 with _ | u5;exact aaG;refine aah ?_;refine uL (x:=u5) ?_
 refine acT (e:=Enc.enc) (xs:=((signsT u5):(List Tx))) (v:=(src2,([(Un.t x3)]:List Un))) (λ v=>[some v.1.1,dv names,lv (([(tx "come"),(tx "rise"),(tx "die"),(tx "penance"),(tx "bring"),(tx "give"),(tx "pay"),(tx "claim"),(tx "wergild"),(tx "accuse")]:List Tx):(List Tx)),dv x3,lv v.2,none]) (λ i6 v=>[some v.1.1,dv names,lv (([(tx "come"),(tx "rise"),(tx "die"),(tx "penance"),(tx "bring"),(tx "give"),(tx "pay"),(tx "claim"),(tx "wergild"),(tx "accuse")]:List Tx):(List Tx)),dv x3,lv v.2,dv i6]) (jm (fu (bF ak))) (λ i6 v=>il) (λ i6 v=>?_) (λ v=>?_)
 ·obtain⟨src9,parts10⟩:=v;show SK [some src9.1,dv names,lv (([(tx "come"),(tx "rise"),(tx "die"),(tx "penance"),(tx "bring"),(tx "give"),(tx "pay"),(tx "claim"),(tx "wergild"),(tx "accuse")]:List Tx):(List Tx)),dv x3,lv parts10,dv i6] _ _ _ _ _;refine s_if (x:=(decide (i6=(tx "a")))) (qW (iH (z:=(Enc.enc ((decide (i6=(tx "a"))):Bool))) (aC (by rfl)) (aQ "a") (jW i6 ((tx "a"):Tx)))) ?_ ?_
  ·refine s_drop ?_;refine ahD (by rfl) ?_;refine oJ (by rfl) ?_;refine jg ?_;refine bQ ?_;refine a_r (by rfl) ?_;refine a_d ?_;refine aJ (wz (z:=(Enc.enc ((List.length names:Nat):Int))) (aC (by rfl)) (aaa _)) ?_;refine d9 ?_;refine bR (by show List.Nodup [0];decide) rfl (jX src9 (((List.length names:Nat):Int))) dC ?_;rintro⟨r11,src12⟩;show SK [some src12.1,dv names,lv (([(tx "come"),(tx "rise"),(tx "die"),(tx "penance"),(tx "bring"),(tx "give"),(tx "pay"),(tx "claim"),(tx "wergild"),(tx "accuse")]:List Tx):(List Tx)),dv x3,lv parts10,dv i6] _ _ _ _ _;refine cZ ?_;refine aJ (aC (by rfl)) ?_;refine gH (p:=atI names r11) (f:=Enc.enc) (aaH names r11) (λ x13=>?_);refine ahE (xs:=parts10) (x:=((Un.t x13):Un)) (by rfl) rfl ?_;exact oZ rfl (jm (fu (bF ak)))
  refine s_if (x:=(decide (i6=(tx "b")))) (qW (iH (z:=(Enc.enc ((decide (i6=(tx "b"))):Bool))) (aC (by rfl)) (aQ "b") (jW i6 ((tx "b"):Tx)))) ?_ ?_
  ·refine s_drop ?_;refine ahD (by rfl) ?_;refine jg ?_;refine bQ ?_;refine a_r (by rfl) ?_;refine d9 ?_;refine bR (by show List.Nodup [0];decide) rfl (vU src9) dC ?_;rintro⟨r14,src15⟩;show SK [some src15.1,dv names,lv (([(tx "come"),(tx "rise"),(tx "die"),(tx "penance"),(tx "bring"),(tx "give"),(tx "pay"),(tx "claim"),(tx "wergild"),(tx "accuse")]:List Tx):(List Tx)),dv x3,lv parts10,dv i6] _ _ _ _ _;refine cZ ?_;refine ahE (xs:=parts10) (x:=((Un.i r14):Un)) (by rfl) rfl ?_;exact oZ rfl (jm (fu (bF ak)))
  refine s_asg ?_;refine lB ?_;refine t7 (by rfl) ?_;refine jg ?_;refine yq ?_;refine lC ?_;refine jg ?_;refine bQ ?_;refine a_r (by rfl) ?_;refine a_r (by rfl) ?_;refine d9 ?_;refine bR (by show List.Nodup [0,1];decide) rfl (aap src9 names) dC ?_;rintro⟨r16,src17⟩;show SK [some src17.1,dv names,lv (([(tx "come"),(tx "rise"),(tx "die"),(tx "penance"),(tx "bring"),(tx "give"),(tx "pay"),(tx "claim"),(tx "wergild"),(tx "accuse")]:List Tx):(List Tx)),dv x3,dv parts10,dv i6] _ _ _ _ _;refine cZ ?_;refine lC ?_;refine jg ?_;refine bQ ?_;refine a_r (by rfl) ?_;refine a_r (by rfl) ?_;refine d9 ?_;refine bR (by show List.Nodup [0,1];decide) rfl (aap src17 names) dC ?_;rintro⟨r18,src19⟩;show SK [some src19.1,dv names,lv (([(tx "come"),(tx "rise"),(tx "die"),(tx "penance"),(tx "bring"),(tx "give"),(tx "pay"),(tx "claim"),(tx "wergild"),(tx "accuse")]:List Tx):(List Tx)),dv x3,dv parts10,dv i6] _ _ _ _ _;refine cZ ?_;refine aJ ir ?_;refine rQ (lnS (n:=2) rfl) ?_;refine cZ ?_;refine cZ ?_;refine gH (p:=catT parts10 (List.map Un.l (([r16,r18]:List (List Tx)):(List (List Tx))))) (f:=(λ z=>S.ol (List.map Enc.enc z))) (aiC parts10 (([r16,r18]:List (List Tx)):(List (List Tx)))) (λ x20=>?_);refine dW rfl ?_;exact oZ rfl (jm (fu (bF ak)))
 obtain⟨src9,parts10⟩:=v;show SK [some src9.1,dv names,lv (([(tx "come"),(tx "rise"),(tx "die"),(tx "penance"),(tx "bring"),(tx "give"),(tx "pay"),(tx "claim"),(tx "wergild"),(tx "accuse")]:List Tx):(List Tx)),dv x3,lv parts10,none] _ _ _ _ _;refine aO ?_;refine s_ret ?_;refine aJ (vB (wz (z:=(Enc.enc (DeedT.mk parts10))) (bD (by rfl)) (afJ _))) ?_;exact lM rfl (fu (fu ak))
def lJ (deed:DeedT):T Empty (Tx) :=
 (T.ofO (atI deed.ps (0:Int))).bind λ x1 =>
 (T.ofO (Un.toT x1)).bind λ u2 =>
 (T.ofO (cutU deed (some (1:Int)) none)).bind λ w3 =>
 (T.forM w3.ps ((u2,(tx " +")):Tx×Tx) (λ(i4:Un) (text7,sign8)=>((if(Un.isL i4)=true then((T.ofO (catS text7 sign8)).bind λ x9 =>
 (T.ofO (Un.toL i4)).bind λ u10 =>
 (T.forM u10 (x9:Tx) (λ(i11:Tx) text13=>(((T.ofO (catS text13 (tx " "))).bind λ x14 =>
 (T.ofO (catS x14 i11)).bind λ x15 =>
 .ok x15):T Empty (Tx)))).bind λ text13 =>
 .ok (text13,(tx " -"))) else((T.ofO (catS text7 (tx " "))).bind λ x16 =>
 (T.ofO (strU i4)).bind λ x17 =>
 (T.ofO (catS x16 x17)).bind λ x18 =>
 .ok (x18,sign8))):T Empty (Tx×Tx)))).bind λ(text7,sign8) =>
 .ok text7
theorem abq (deed:DeedT):SK [dv deed] Lw.lA (lJ deed) (λ r=>(S.d (Enc.enc r))) (λ r=>[none]) XV:=by
 unfold Lw.lA Lw.vq lJ;refine oH (X':=XV) ?_ dC;show SK [dv deed,none,none,none,none] _ _ _ _ _;refine bB ?_;refine s_asg ?_;refine e_d ?_;refine oJ (by rfl) ?_;refine aJ (dw (d:=Enc.enc (0:Int))) ?_;refine aJ (aC (by rfl)) ?_;refine gH (p:=atI deed.ps (0:Int)) (f:=Enc.enc) (aoK deed (0:Int)) (λ x1=>?_);rcases hhu2:x1 with u2 | u2 | u2 | _;exact aaG;rotate_left;exact aaG;exact aaG;refine aah ?_;refine dW rfl ?_;refine aO ?_;refine bB ?_;refine s_asg ?_;refine aJ (vB (aQ " +")) ?_;refine dW rfl ?_;refine aO ?_;refine bB ?_;refine rY ?_;refine lX ?_;refine jg ?_;refine ahF ?_;refine aJ (aC (by rfl)) ?_;refine aJ (j9 (dw (d:=Enc.enc (1:Int)))) ?_;refine aJ mW ?_;refine gH (p:=cutU deed (some (1:Int)) none) (f:=λ z=>S.d (Enc.enc z)) (am4 _ _ _) (λ w3=>?_);refine cZ ?_;refine cZ ?_;refine acT (e:=Enc.enc) (xs:=(w3.ps:(List Un))) (v:=(u2,(tx " +"))) (λ v=>[dv deed,dv v.1,dv v.2,none,none]) (λ i4 v=>[dv deed,dv v.1,dv v.2,dv i4,none]) (jn (bF ak)) (λ i4 v=>il) (λ i4 v=>?_) (λ v=>?_)
 ·obtain⟨text7,sign8⟩:=v;show SK [dv deed,dv text7,dv sign8,dv i4,none] _ _ _ _ _;refine s_if (x:=(Un.isL i4)) (qW (akT (aC (by rfl)))) ?_ ?_
  ·refine bB ?_;refine s_asg ?_;refine lB ?_;refine aJ (aZ (by rfl)) ?_;refine aJ (aZ (by rfl)) ?_;refine gH (p:=catS text7 sign8) (f:=(λ z=>S.d (Enc.enc z))) (cat_t text7 sign8) (λ x9=>?_);refine dW rfl ?_;refine aO ?_;refine bB ?_;refine s_asg ?_;refine aJ (vB (aQ " -")) ?_;refine dW rfl ?_;refine aO ?_;refine rY ?_;refine lX ?_;refine aJ (aZ (by rfl)) ?_;rcases hhu10:i4 with u10 | u10 | u10 | _;exact aaG;exact aaG;rotate_left;exact aaG;show SK [dv deed,dv x9,dv ((tx " -"):Tx),dv u10,none] _ _ _ _ _;refine aah ?_;refine cZ ?_;refine acT (e:=Enc.enc) (xs:=u10) (v:=x9) (λ v=>[dv deed,dv v,dv ((tx " -"):Tx),dv u10,none]) (λ i11 v=>[dv deed,dv v,dv ((tx " -"):Tx),dv u10,dv i11]) (jm (bF ak)) (λ i11 v=>il) (λ i11 v=>?_) (λ v=>?_)
   ·revert v;intro text13;show SK [dv deed,dv text13,dv ((tx " -"):Tx),dv u10,dv i11] _ _ _ _ _;refine s_asg ?_;refine lB ?_;refine jg ?_;refine lB ?_;refine aJ (aZ (by rfl)) ?_;refine aJ (aQ " ") ?_;refine gH (p:=catS text13 (tx " ")) (f:=(λ z=>S.d (Enc.enc z))) (cat_t text13 (tx " ")) (λ x14=>?_);refine cZ ?_;refine aJ (aZ (by rfl)) ?_;refine gH (p:=catS x14 i11) (f:=(λ z=>S.d (Enc.enc z))) (cat_t x14 i11) (λ x15=>?_);refine dW rfl ?_;exact oZ rfl (jm (bF ak))
   revert v;intro text13;show SK [dv deed,dv text13,dv ((tx " -"):Tx),dv u10,none] _ _ _ _ _;exact oZ rfl (jn (bF ak))
  refine s_asg ?_;refine lB ?_;refine jg ?_;refine lB ?_;refine aJ (aZ (by rfl)) ?_;refine aJ (aQ " ") ?_;refine gH (p:=catS text7 (tx " ")) (f:=(λ z=>S.d (Enc.enc z))) (cat_t text7 (tx " ")) (λ x16=>?_);refine cZ ?_;refine wy ?_;refine aJ (aC (by rfl)) ?_;refine gH (p:=strU i4) (f:=Enc.enc) (aoS _) (λ x17=>?_);refine gH (p:=catS x16 x17) (f:=(λ z=>S.d (Enc.enc z))) (cat_t x16 x17) (λ x18=>?_);refine dW rfl ?_;exact oZ rfl (jn (bF ak))
 obtain⟨text7,sign8⟩:=v;show SK [dv deed,dv text7,dv sign8,none,none] _ _ _ _ _;refine aO ?_;refine s_ret ?_;refine z9 (by rfl) (by intro _ h;cases h) ?_;exact lM rfl (bF ak)
def j5 (src:SrcT)(text:Tx):T Empty (Tx×SrcT) :=
 (iW src ((7:Int))).bind λ(r1,src2) =>
 (T.ofO (lenT text)).bind λ x3 =>
 (iW src2 ((x3+(1:Int)):Int)).bind λ(r4,src5) =>
 (T.ofO (lenT (tx " !\"#$&'()*+,-./0123456789:;<=>?@ABCDEFGHIJKLMNOPQRSTUVWXYZ[\\]^_`abcdefghijklmnopqrstuvwxyz{|}~"))).bind λ x6 =>
 (iW src5 x6).bind λ(r7,src8) =>
 (T.ofO (txAt (tx " !\"#$&'()*+,-./0123456789:;<=>?@ABCDEFGHIJKLMNOPQRSTUVWXYZ[\\]^_`abcdefghijklmnopqrstuvwxyz{|}~") r7)).bind λ x9 =>
 (((iW src8 ((2:Int))).bind λ(r12,src13) =>
 if(decide (r12=(0:Int)))=true then((iW src13 ((5:Int))).bind λ(r14,src15) =>
 (T.ofO (txAt (tx " 0a+-") r14)).bind λ x16 =>
 .ok (src15,x16)) else(.ok (src13,x9)):T Empty (SrcT×Tx))).bind λ(src10,sign11) =>
 (T.ofO (splitT text ((tx " "):Tx))).bind λ w17 =>
 (iW src10 (((List.length w17:Nat):Int):Int)).bind λ(r18,src19) =>
 if(decide (r1=(0:Int)))=true then((T.ofO (cutS' text none (some r4))).bind λ w20 =>
 (T.ofO (catS w20 sign11)).bind λ x21 =>
 (T.ofO (cutS' text (some r4) none)).bind λ w22 =>
 (T.ofO (catS x21 w22)).bind λ x23 =>
 .ok (x23,src19)) else(if(decide (r1=(1:Int)))=true then((T.ofO (cutS' text none (some r4))).bind λ w24 =>
 (T.ofO (cutS' text (some (r4+(1:Int))) none)).bind λ w25 =>
 (T.ofO (catS w24 w25)).bind λ x26 =>
 .ok (x26,src19)) else(if(decide (r1=(2:Int)))=true then((T.ofO (cutS' text none (some r4))).bind λ w27 =>
 (T.ofO (catS w27 sign11)).bind λ x28 =>
 (T.ofO (cutS' text (some (r4+(1:Int))) none)).bind λ w29 =>
 (T.ofO (catS x28 w29)).bind λ x30 =>
 .ok (x30,src19)) else(if(decide (r1=(3:Int)))=true then((T.ofO (catT ((cutT w17 none (some r18)):(List Tx)) ((cutT w17 (some (r18+(1:Int))) none):(List Tx)))).bind λ x31 =>
 (T.ofO (joinT (tx " ") x31)).bind λ w32 =>
 .ok (w32,src19)) else(if(decide (r1=(4:Int)))=true then((T.ofO (atI w17 r18)).bind λ x33 =>
 (T.ofO (catT ((cutT w17 none (some r18)):(List Tx)) (([x33]:List Tx):(List Tx)))).bind λ x34 =>
 (T.ofO (catT x34 ((cutT w17 (some r18) none):(List Tx)))).bind λ x35 =>
 (T.ofO (joinT (tx " ") x35)).bind λ w36 =>
 .ok (w36,src19)) else(if(decide (r1=(5:Int)))=true then((T.ofO (catT ((cutT w17 none (some r18)):(List Tx)) ((cutT w17 (some (r18+(1:Int))) none):(List Tx)))).bind λ x37 =>
 (T.ofO (atI w17 r18)).bind λ x38 =>
 (T.ofO (catT x37 (([x38]:List Tx):(List Tx)))).bind λ x39 =>
 (T.ofO (joinT (tx " ") x39)).bind λ w40 =>
 .ok (w40,src19)) else((T.ofO (cutS' text none (some r4))).bind λ w41 =>
 .ok (w41,src19)))))))
theorem aaq (src:SrcT)(text:Tx):SK [some src.1,dv text] Lw.jV (j5 src text) (λ r=>(S.d (Enc.enc r.1))) (λ r=>[some r.2.1,dv text]) XV:=by
 unfold Lw.jV Lw.tZ j5;refine oH (X':=XV) ?_ dC;show SK [some src.1,dv text,none,none,none,none,none,none] _ _ _ _ _;refine bB ?_;refine s_asg ?_;refine aJ (vB (aQ " !\"#$&'()*+,-./0123456789:;<=>?@ABCDEFGHIJKLMNOPQRSTUVWXYZ[\\]^_`abcdefghijklmnopqrstuvwxyz{|}~")) ?_;refine dW rfl ?_;refine aO ?_;refine bB ?_;refine s_asg ?_;refine bQ ?_;refine a_r (by rfl) ?_;refine a_d ?_;refine aJ (dw (d:=Enc.enc (7:Int))) ?_;refine d9 ?_;refine bR (by show List.Nodup [0];decide) rfl (jX src ((7:Int))) dC ?_;rintro⟨r1,src2⟩;show SK [some src2.1,dv text,dv ((tx " !\"#$&'()*+,-./0123456789:;<=>?@ABCDEFGHIJKLMNOPQRSTUVWXYZ[\\]^_`abcdefghijklmnopqrstuvwxyz{|}~"):Tx),none,none,none,none,none] _ _ _ _ _
 refine dW rfl ?_;refine aO ?_;refine bB ?_;refine s_asg ?_;refine bQ ?_;refine a_r (by rfl) ?_;refine a_d ?_;refine jg ?_;refine lB ?_;refine wy ?_;refine aJ (aC (by rfl)) ?_;refine gH (p:=lenT text) (f:=Enc.enc) (ux _) (λ x3=>?_);refine aJ (dw (d:=Enc.enc (1:Int))) ?_;refine e_o (z:=(S.d (Enc.enc (x3+(1:Int))))) rfl ?_;refine cZ ?_;refine d9 ?_;refine bR (by show List.Nodup [0];decide) rfl (jX src2 ((x3+(1:Int)))) dC ?_;rintro⟨r4,src5⟩;show SK [some src5.1,dv text,dv ((tx " !\"#$&'()*+,-./0123456789:;<=>?@ABCDEFGHIJKLMNOPQRSTUVWXYZ[\\]^_`abcdefghijklmnopqrstuvwxyz{|}~"):Tx),dv r1,none,none,none,none] _ _ _ _ _;refine dW rfl ?_;refine aO ?_;refine bB ?_;refine s_asg ?_;refine e_d ?_;refine oJ (by rfl) ?_;refine jg ?_;refine bQ ?_;refine a_r (by rfl) ?_;refine a_d ?_;refine wy ?_;refine aJ (aC (by rfl)) ?_;refine gH (p:=lenT (tx " !\"#$&'()*+,-./0123456789:;<=>?@ABCDEFGHIJKLMNOPQRSTUVWXYZ[\\]^_`abcdefghijklmnopqrstuvwxyz{|}~")) (f:=Enc.enc) (ux _) (λ x6=>?_)
 refine d9 ?_;refine bR (by show List.Nodup [0];decide) rfl (jX src5 x6) dC ?_;rintro⟨r7,src8⟩;show SK [some src8.1,dv text,dv ((tx " !\"#$&'()*+,-./0123456789:;<=>?@ABCDEFGHIJKLMNOPQRSTUVWXYZ[\\]^_`abcdefghijklmnopqrstuvwxyz{|}~"):Tx),dv r1,dv r4,none,none,none] _ _ _ _ _;refine cZ ?_;refine aJ (aC (by rfl)) ?_;refine gH (p:=txAt (tx " !\"#$&'()*+,-./0123456789:;<=>?@ABCDEFGHIJKLMNOPQRSTUVWXYZ[\\]^_`abcdefghijklmnopqrstuvwxyz{|}~") r7) (f:=Enc.enc) (ant (tx " !\"#$&'()*+,-./0123456789:;<=>?@ABCDEFGHIJKLMNOPQRSTUVWXYZ[\\]^_`abcdefghijklmnopqrstuvwxyz{|}~") r7) (λ x9=>?_)
 refine dW rfl ?_;refine aO ?_;refine bB ?_;refine aoF (B1:=λ v=>[some v.1.1,dv text,dv ((tx " !\"#$&'()*+,-./0123456789:;<=>?@ABCDEFGHIJKLMNOPQRSTUVWXYZ[\\]^_`abcdefghijklmnopqrstuvwxyz{|}~"):Tx),dv r1,dv r4,dv v.2,none,none]) ?_ ?_
 ·refine qL ?_;refine e_B ?_;refine lB ?_;refine jg ?_;refine bQ ?_;refine a_r (by rfl) ?_;refine a_d ?_;refine aJ (dw (d:=Enc.enc (2:Int))) ?_;refine d9 ?_;refine bR (by show List.Nodup [0];decide) rfl (jX src8 ((2:Int))) dC ?_;rintro⟨r12,src13⟩;show SK [some src13.1,dv text,dv ((tx " !\"#$&'()*+,-./0123456789:;<=>?@ABCDEFGHIJKLMNOPQRSTUVWXYZ[\\]^_`abcdefghijklmnopqrstuvwxyz{|}~"):Tx),dv r1,dv r4,dv x9,none,none] _ _ _ _ _;refine cZ ?_;refine aJ (dw (d:=Enc.enc (0:Int))) ?_;refine e_o (z:=(Enc.enc ((decide (r12=(0:Int))):Bool))) (jW r12 ((0:Int))) ?_;refine cZ ?_;refine qM (x:=(decide (r12=(0:Int)))) ?_ ?_
  ·refine s_asg ?_;refine e_d ?_;refine lB ?_;refine aJ (aQ " 0a+-") ?_;refine jg ?_;refine bQ ?_;refine a_r (by rfl) ?_;refine a_d ?_;refine aJ (dw (d:=Enc.enc (5:Int))) ?_;refine d9 ?_;refine bR (by show List.Nodup [0];decide) rfl (jX src13 ((5:Int))) dC ?_;rintro⟨r14,src15⟩;show SK [some src15.1,dv text,dv ((tx " !\"#$&'()*+,-./0123456789:;<=>?@ABCDEFGHIJKLMNOPQRSTUVWXYZ[\\]^_`abcdefghijklmnopqrstuvwxyz{|}~"):Tx),dv r1,dv r4,dv x9,none,none] _ _ _ _ _;refine cZ ?_;refine gH (p:=txAt (tx " 0a+-") r14) (f:=Enc.enc) (ant (tx " 0a+-") r14) (λ x16=>?_)
   refine dW rfl ?_;exact oZ rfl (jm (oY ak))
  refine dX ?_;exact oZ rfl (jm (oY ak))
 rintro⟨src10,sign11⟩;show SK [some src10.1,dv text,dv ((tx " !\"#$&'()*+,-./0123456789:;<=>?@ABCDEFGHIJKLMNOPQRSTUVWXYZ[\\]^_`abcdefghijklmnopqrstuvwxyz{|}~"):Tx),dv r1,dv r4,dv sign11,none,none] _ _ _ _ _;refine aO ?_;refine bB ?_;refine s_asg ?_;refine abm ?_;refine aJ (aZ (by rfl)) ?_;refine abn (x:=text) ?_;refine aJ (aQ " ") ?_
 refine gH (p:=splitT text ((tx " "):Tx)) (f:=λ z=>S.ol (List.map Enc.enc z)) (abl (by decide) (by decide)) (λ w17=>?_);refine dW rfl ?_;refine aO ?_;refine bB ?_;refine s_asg ?_;refine bQ ?_;refine a_r (by rfl) ?_;refine a_d ?_;refine aJ (wz (z:=(Enc.enc ((List.length w17:Nat):Int))) (bD (by rfl)) (aaa _)) ?_;refine d9 ?_;refine bR (by show List.Nodup [0];decide) rfl (jX src10 (((List.length w17:Nat):Int))) dC ?_;rintro⟨r18,src19⟩;show SK [some src19.1,dv text,dv ((tx " !\"#$&'()*+,-./0123456789:;<=>?@ABCDEFGHIJKLMNOPQRSTUVWXYZ[\\]^_`abcdefghijklmnopqrstuvwxyz{|}~"):Tx),dv r1,dv r4,dv sign11,lv w17,none] _ _ _ _ _;refine dW rfl ?_;refine aO ?_;refine bB ?_;refine s_if (x:=(decide (r1=(0:Int)))) (qW (iH (z:=(Enc.enc ((decide (r1=(0:Int))):Bool))) (aC (by rfl)) (dw (d:=Enc.enc (0:Int))) (jW r1 ((0:Int))))) ?_ ?_
 ·refine s_ret ?_;refine lB ?_;refine jg ?_;refine lB ?_;refine jg ?_;refine ahF ?_;refine aJ (aC (by rfl)) ?_;refine aJ mW ?_;refine aJ (j9 (aZ (by rfl))) ?_;refine gH (p:=cutS' text none (some r4)) (f:=λ z=>S.d (Enc.enc z)) (aa5 _ _ _) (λ w20=>?_);refine cZ ?_;refine aJ (aZ (by rfl)) ?_;refine gH (p:=catS w20 sign11) (f:=(λ z=>S.d (Enc.enc z))) (cat_t w20 sign11) (λ x21=>?_);refine cZ ?_;refine jg ?_;refine ahF ?_;refine aJ (aC (by rfl)) ?_;refine aJ (j9 (aZ (by rfl))) ?_;refine aJ mW ?_;refine gH (p:=cutS' text (some r4) none) (f:=λ z=>S.d (Enc.enc z)) (aa5 _ _ _) (λ w22=>?_);refine cZ ?_;refine gH (p:=catS x21 w22) (f:=(λ z=>S.d (Enc.enc z))) (cat_t x21 w22) (λ x23=>?_);exact lM rfl (fu (fu ak))
 refine dX ?_;refine aO ?_;refine bB ?_;refine s_if (x:=(decide (r1=(1:Int)))) (qW (iH (z:=(Enc.enc ((decide (r1=(1:Int))):Bool))) (aC (by rfl)) (dw (d:=Enc.enc (1:Int))) (jW r1 ((1:Int))))) ?_ ?_
 ·refine s_ret ?_;refine lB ?_;refine jg ?_;refine ahF ?_;refine aJ (aC (by rfl)) ?_;refine aJ mW ?_;refine aJ (j9 (aZ (by rfl))) ?_;refine gH (p:=cutS' text none (some r4)) (f:=λ z=>S.d (Enc.enc z)) (aa5 _ _ _) (λ w24=>?_);refine cZ ?_;refine jg ?_;refine ahF ?_;refine aJ (aC (by rfl)) ?_;refine aJ (j9 (acR (iH (z:=(S.d (Enc.enc (r4+(1:Int))))) (aZ (by rfl)) (dw (d:=Enc.enc (1:Int))) rfl))) ?_;refine aJ mW ?_;refine gH (p:=cutS' text (some (r4+(1:Int))) none) (f:=λ z=>S.d (Enc.enc z)) (aa5 _ _ _) (λ w25=>?_);refine cZ ?_;refine gH (p:=catS w24 w25) (f:=(λ z=>S.d (Enc.enc z))) (cat_t w24 w25) (λ x26=>?_);exact lM rfl (fu (fu ak))
 refine dX ?_;refine aO ?_;refine bB ?_;refine s_if (x:=(decide (r1=(2:Int)))) (qW (iH (z:=(Enc.enc ((decide (r1=(2:Int))):Bool))) (aC (by rfl)) (dw (d:=Enc.enc (2:Int))) (jW r1 ((2:Int))))) ?_ ?_
 ·refine s_ret ?_;refine lB ?_;refine jg ?_;refine lB ?_;refine jg ?_;refine ahF ?_;refine aJ (aC (by rfl)) ?_;refine aJ mW ?_;refine aJ (j9 (aZ (by rfl))) ?_;refine gH (p:=cutS' text none (some r4)) (f:=λ z=>S.d (Enc.enc z)) (aa5 _ _ _) (λ w27=>?_);refine cZ ?_;refine aJ (aZ (by rfl)) ?_;refine gH (p:=catS w27 sign11) (f:=(λ z=>S.d (Enc.enc z))) (cat_t w27 sign11) (λ x28=>?_);refine cZ ?_;refine jg ?_;refine ahF ?_;refine aJ (aC (by rfl)) ?_;refine aJ (j9 (acR (iH (z:=(S.d (Enc.enc (r4+(1:Int))))) (aZ (by rfl)) (dw (d:=Enc.enc (1:Int))) rfl))) ?_;refine aJ mW ?_;refine gH (p:=cutS' text (some (r4+(1:Int))) none) (f:=λ z=>S.d (Enc.enc z)) (aa5 _ _ _) (λ w29=>?_);refine cZ ?_;refine gH (p:=catS x28 w29) (f:=(λ z=>S.d (Enc.enc z))) (cat_t x28 w29) (λ x30=>?_);exact lM rfl (fu (fu ak))
 refine dX ?_;refine aO ?_;refine bB ?_;refine s_if (x:=(decide (r1=(3:Int)))) (qW (iH (z:=(Enc.enc ((decide (r1=(3:Int))):Bool))) (aC (by rfl)) (dw (d:=Enc.enc (3:Int))) (jW r1 ((3:Int))))) ?_ ?_
 ·refine s_ret ?_;refine e_d ?_;refine aeY (z:=(tx " ").s) (aQ " ") ?_;refine jg ?_;refine lB ?_;refine aJ (jH (rW (bD (by rfl)) mW (j9 (aZ (by rfl))) (qN _ _ _))) ?_;refine aJ (jH (rW (bD (by rfl)) (j9 (acR (iH (z:=(S.d (Enc.enc (r18+(1:Int))))) (aZ (by rfl)) (dw (d:=Enc.enc (1:Int))) rfl))) mW (qN _ _ _))) ?_;refine gH (p:=catT ((cutT w17 none (some r18)):(List Tx)) ((cutT w17 (some (r18+(1:Int))) none):(List Tx))) (f:=(λ z=>S.ol (List.map Enc.enc z))) (yr ((cutT w17 none (some r18)):(List Tx)) ((cutT w17 (some (r18+(1:Int))) none):(List Tx))) (λ x31=>?_);refine cZ ?_;refine gH (p:=joinT (tx " ") x31) (f:=Enc.enc) (afH _ _) (λ w32=>?_);exact lM rfl (fu (fu ak))
 refine dX ?_;refine aO ?_;refine bB ?_;refine s_if (x:=(decide (r1=(4:Int)))) (qW (iH (z:=(Enc.enc ((decide (r1=(4:Int))):Bool))) (aC (by rfl)) (dw (d:=Enc.enc (4:Int))) (jW r1 ((4:Int))))) ?_ ?_
 ·refine s_ret ?_;refine e_d ?_;refine aeY (z:=(tx " ").s) (aQ " ") ?_;refine jg ?_;refine lB ?_;refine jg ?_;refine lB ?_;refine aJ (jH (rW (bD (by rfl)) mW (j9 (aZ (by rfl))) (qN _ _ _))) ?_;refine jg ?_;refine yq ?_;refine lC ?_;refine oJ (by rfl) ?_;refine aJ (aZ (by rfl)) ?_;refine aJ (bD (by rfl)) ?_;refine gH (p:=atI w17 r18) (f:=Enc.enc) (aaH w17 r18) (λ x33=>?_);refine aJ ir ?_;refine rQ (lnS (n:=1) rfl) ?_;refine cZ ?_;refine cZ ?_;refine gH (p:=catT ((cutT w17 none (some r18)):(List Tx)) (([x33]:List Tx):(List Tx))) (f:=(λ z=>S.ol (List.map Enc.enc z))) (yr ((cutT w17 none (some r18)):(List Tx)) (([x33]:List Tx):(List Tx))) (λ x34=>?_);refine cZ ?_;refine aJ (jH (rW (bD (by rfl)) (j9 (aZ (by rfl))) mW (qN _ _ _))) ?_;refine gH (p:=catT x34 ((cutT w17 (some r18) none):(List Tx))) (f:=(λ z=>S.ol (List.map Enc.enc z))) (yr x34 ((cutT w17 (some r18) none):(List Tx))) (λ x35=>?_);refine cZ ?_;refine gH (p:=joinT (tx " ") x35) (f:=Enc.enc) (afH _ _) (λ w36=>?_);exact lM rfl (fu (fu ak))
 refine dX ?_;refine aO ?_;refine bB ?_;refine s_if (x:=(decide (r1=(5:Int)))) (qW (iH (z:=(Enc.enc ((decide (r1=(5:Int))):Bool))) (aC (by rfl)) (dw (d:=Enc.enc (5:Int))) (jW r1 ((5:Int))))) ?_ ?_
 ·refine s_ret ?_;refine e_d ?_;refine aeY (z:=(tx " ").s) (aQ " ") ?_;refine jg ?_;refine lB ?_;refine jg ?_;refine lB ?_;refine aJ (jH (rW (bD (by rfl)) mW (j9 (aZ (by rfl))) (qN _ _ _))) ?_;refine aJ (jH (rW (bD (by rfl)) (j9 (acR (iH (z:=(S.d (Enc.enc (r18+(1:Int))))) (aZ (by rfl)) (dw (d:=Enc.enc (1:Int))) rfl))) mW (qN _ _ _))) ?_;refine gH (p:=catT ((cutT w17 none (some r18)):(List Tx)) ((cutT w17 (some (r18+(1:Int))) none):(List Tx))) (f:=(λ z=>S.ol (List.map Enc.enc z))) (yr ((cutT w17 none (some r18)):(List Tx)) ((cutT w17 (some (r18+(1:Int))) none):(List Tx))) (λ x37=>?_);refine cZ ?_;refine jg ?_;refine yq ?_;refine lC ?_;refine oJ (by rfl) ?_;refine aJ (aZ (by rfl)) ?_;refine aJ (bD (by rfl)) ?_;refine gH (p:=atI w17 r18) (f:=Enc.enc) (aaH w17 r18) (λ x38=>?_);refine aJ ir ?_;refine rQ (lnS (n:=1) rfl) ?_;refine cZ ?_;refine cZ ?_;refine gH (p:=catT x37 (([x38]:List Tx):(List Tx))) (f:=(λ z=>S.ol (List.map Enc.enc z))) (yr x37 (([x38]:List Tx):(List Tx))) (λ x39=>?_);refine cZ ?_;refine gH (p:=joinT (tx " ") x39) (f:=Enc.enc) (afH _ _) (λ w40=>?_);exact lM rfl (fu (fu ak))
 refine dX ?_;refine aO ?_;refine s_ret ?_;refine ahF ?_;refine aJ (aC (by rfl)) ?_;refine aJ mW ?_;refine aJ (j9 (aZ (by rfl))) ?_;refine gH (p:=cutS' text none (some r4)) (f:=λ z=>S.d (Enc.enc z)) (aa5 _ _ _) (λ w41=>?_);exact lM rfl (fu (fu ak))
def cU (word:Tx):T Empty ((Option Tx)) :=
 T.bindL (T.forL (signsT word) (():Unit) (λ(i1:Tx) _=>((if(!((!ltT i1 (tx "a"))&&(!ltT (tx "z") i1)))=true then(.ok (.rt ())) else(.ok (.nx ()))):T Empty (T.Lp (Unit) (Unit))))) (λ _ =>
 (T.ofO (lenT word)).bind λ x2 =>
 if(decide (x2 < (1:Int)))=true then(.ok (none:(Option Tx))) else((T.ofO (lenT word)).bind λ x3 =>
 if(decide ((12:Int) < x3))=true then(.ok (none:(Option Tx))) else(.ok (some word)))) (λ _=>.ok (none:(Option Tx)))
theorem lK (word:Tx):SK [dv word] Lw.cO (cU word) (λ r=>(S.d (Enc.enc r))) (λ r=>[none]) XV:=by
 unfold Lw.cO Lw.oR cU;refine oH (X':=XV) ?_ dC;show SK [dv word,none] _ _ _ _ _;refine bB ?_;refine rY ?_;refine lX ?_;refine aJ (aZ (by rfl)) ?_;refine uL (x:=word) ?_;refine ae2 (e:=Enc.enc) (xs:=((signsT word):(List Tx))) (v:=(():Unit)) (λ v=>[dv word,none]) (λ r=>[none,none]) (λ(r:Unit)=>(S.d .none)) (λ i1 v=>[dv word,dv i1]) (fu (bF ak)) (λ i1 v=>il) (λ i1 v=>?_) (λ v=>?_) (λ r=>?_)
 ·show SK [dv word,dv i1] _ _ _ _ _;refine s_if (x:=(!((!ltT i1 (tx "a"))&&(!ltT (tx "z") i1)))) (ais (aeX (qW (iH (z:=(Enc.enc ((!ltT i1 (tx "a")):Bool))) (aQ "a") (aC (by rfl)) rfl)) (qW (iH (z:=(Enc.enc ((!ltT (tx "z") i1):Bool))) (aC (by rfl)) (aQ "z") rfl)))) ?_ ?_
  ·refine s_ret ?_;refine aJ (vB dw) ?_;exact oZ rfl (bF (bF ak))
  refine dX ?_;exact oZ rfl (fu (bF ak))
 ·show SK [dv word,none] _ _ _ _ _;refine aO ?_;refine bB ?_;refine qL ?_;refine wA ?_;refine e_B ?_;refine lB ?_;refine wy ?_;refine aJ (aC (by rfl)) ?_;refine gH (p:=lenT word) (f:=Enc.enc) (ux _) (λ x2=>?_);refine aJ (dw (d:=Enc.enc (1:Int))) ?_;refine e_o (z:=(Enc.enc ((decide (x2 < (1:Int))):Bool))) rfl ?_;refine cZ ?_;refine afZ (x:=(decide (x2 < (1:Int)))) ?_ ?_
  ·refine pY ?_;refine s_ret ?_;refine aJ (vB dw) ?_;exact lM rfl (bF ak)
  refine e_B ?_;refine lB ?_;refine wy ?_;refine aJ (aC (by rfl)) ?_;refine gH (p:=lenT word) (f:=Enc.enc) (ux _) (λ x3=>?_);refine aJ (dw (d:=Enc.enc (12:Int))) ?_;refine e_o (z:=(Enc.enc ((decide ((12:Int) < x3)):Bool))) rfl ?_;refine cZ ?_;refine qM (x:=(decide ((12:Int) < x3))) ?_ ?_
  ·refine s_ret ?_;refine aJ (vB dw) ?_;exact lM rfl (bF ak)
  refine dX ?_;refine aO ?_;refine s_ret ?_;refine z9 (by rfl) (by intro _ h;cases h) ?_;exact lM rfl (bF ak)
 show SK [none,none] _ _ _ _ _;exact lM rfl (bF ak)
def fO (word:Tx):T Empty ((Option Int)) :=
 if(decide (word=(tx "")))=true then(.ok (none:(Option Int))) else((T.ofO (lenT word)).bind λ x1 =>
 if(decide ((9:Int) < x1))=true then(.ok (none:(Option Int))) else((((T.ofO (txAt word (0:Int))).bind λ x3 =>
 if(decide (x3=(tx "0")))=true then(.ok (!(decide (word=(tx "0"))))) else(.ok false):T Empty (Bool))).bind λ b2 =>
 if b2=true then(.ok (none:(Option Int))) else(T.bindL (T.forL (signsT word) (():Unit) (λ(i4:Tx) _=>((if(!((!ltT i4 (tx "0"))&&(!ltT (tx "9") i4)))=true then(.ok (.rt ())) else(.ok (.nx ()))):T Empty (T.Lp (Unit) (Unit))))) (λ _ =>
 (T.ofO (intT word)).bind λ x5 =>
 .ok (some x5)) (λ _=>.ok (none:(Option Int))))))
theorem tQ (word:Tx):SK [dv word] Lw.fJ (fO word) (λ r=>(S.d (Enc.enc r))) (λ r=>[none]) XV:=by
 unfold Lw.fJ Lw.mQ fO;refine oH (X':=XV) ?_ dC;show SK [dv word,none] _ _ _ _ _;refine bB ?_;refine qL ?_;refine wA ?_;refine aJ (qW (iH (z:=(Enc.enc ((decide (word=(tx ""))):Bool))) (aC (by rfl)) (aQ "") (jW word ((tx ""):Tx)))) ?_;refine afZ (x:=(decide (word=(tx "")))) ?_ ?_
 ·refine pY ?_;refine s_ret ?_;refine aJ (vB dw) ?_;exact lM rfl (bF ak)
 refine wA ?_;refine e_B ?_;refine lB ?_;refine wy ?_;refine aJ (aC (by rfl)) ?_;refine gH (p:=lenT word) (f:=Enc.enc) (ux _) (λ x1=>?_);refine aJ (dw (d:=Enc.enc (9:Int))) ?_;refine e_o (z:=(Enc.enc ((decide ((9:Int) < x1)):Bool))) rfl ?_;refine cZ ?_;refine afZ (x:=(decide ((9:Int) < x1))) ?_ ?_
 ·refine pY ?_;refine s_ret ?_;refine aJ (vB dw) ?_;exact lM rfl (bF ak)
 refine amD (F1:=(λ p=>p)) (B1:=λ p=>[dv word,none]) ?_ ?_
 ·refine aip ?_;refine aiu ?_;refine e_B ?_;refine lB ?_;refine oJ (by rfl) ?_;refine aJ (dw (d:=Enc.enc (0:Int))) ?_;refine aJ (aC (by rfl)) ?_;refine gH (p:=txAt word (0:Int)) (f:=Enc.enc) (ant word (0:Int)) (λ x3=>?_);refine aJ (aQ "0") ?_;refine e_o (z:=(Enc.enc ((decide (x3=(tx "0"))):Bool))) (jW x3 ((tx "0"):Tx)) ?_;refine cZ ?_;refine amJ (x:=(decide (x3=(tx "0")))) ?_ ?_
  ·refine aJ (qW (iH (z:=(Enc.enc ((!(decide (word=(tx "0")))):Bool))) (aC (by rfl)) (aQ "0") (wW word ((tx "0"):Tx)))) ?_;exact oZ rfl (fu (bF ak))
  exact oZ rfl (fu (bF ak))
 rintro b2;show SK [dv word,none] _ _ _ _ _;refine qM (x:=b2) ?_ ?_
 ·refine s_ret ?_;refine aJ (vB dw) ?_;exact lM rfl (bF ak)
 refine dX ?_;refine aO ?_;refine bB ?_;refine rY ?_;refine lX ?_;refine aJ (aZ (by rfl)) ?_;refine uL (x:=word) ?_;refine ae2 (e:=Enc.enc) (xs:=((signsT word):(List Tx))) (v:=(():Unit)) (λ v=>[dv word,none]) (λ r=>[none,none]) (λ(r:Unit)=>(S.d .none)) (λ i4 v=>[dv word,dv i4]) (fu (bF ak)) (λ i4 v=>il) (λ i4 v=>?_) (λ v=>?_) (λ r=>?_)
 ·show SK [dv word,dv i4] _ _ _ _ _;refine s_if (x:=(!((!ltT i4 (tx "0"))&&(!ltT (tx "9") i4)))) (ais (aeX (qW (iH (z:=(Enc.enc ((!ltT i4 (tx "0")):Bool))) (aQ "0") (aC (by rfl)) rfl)) (qW (iH (z:=(Enc.enc ((!ltT (tx "9") i4):Bool))) (aC (by rfl)) (aQ "9") rfl)))) ?_ ?_
  ·refine s_ret ?_;refine aJ (vB dw) ?_;exact oZ rfl (bF (bF ak))
  refine dX ?_;exact oZ rfl (fu (bF ak))
 ·show SK [dv word,none] _ _ _ _ _;refine aO ?_;refine s_ret ?_;refine e_d ?_;refine wy ?_;refine aJ (aC (by rfl)) ?_;refine gH (p:=intT word) (f:=Enc.enc) (am8 _) (λ x5=>?_);exact lM rfl (bF ak)
 show SK [none,none] _ _ _ _ _;exact lM rfl (bF ak)
def dR (sign:Tx)(word:Tx):T Empty (D) :=
 if(decide (sign=(tx "a")))=true then((cU word).bind λ r1 =>
 .ok (Enc.enc r1:D)) else((fO word).bind λ r2 =>
 .ok (Enc.enc r2:D))
theorem vW (sign:Tx)(word:Tx):SK [dv sign,dv word] Lw.gY (dR sign word) (λ r=>(S.d (Enc.enc r))) (λ r=>[none,none]) XV:=by
 unfold Lw.gY Lw.oU dR;refine oH (X':=XV) ?_ dC;show SK [dv sign,dv word] _ _ _ _ _;refine bB ?_;refine s_if (x:=(decide (sign=(tx "a")))) (qW (iH (z:=(Enc.enc ((decide (sign=(tx "a"))):Bool))) (aC (by rfl)) (aQ "a") (jW sign ((tx "a"):Tx)))) ?_ ?_
 ·refine s_ret ?_;refine bQ ?_;refine a_d ?_;refine aJ (aZ (by rfl)) ?_;refine d9 ?_;refine bR List.nodup_nil rfl (lK word) dC ?_;rintro r1;show SK [dv sign,dv word] _ _ _ _ _;exact lM rfl (bF (bF ak))
 refine dX ?_;refine aO ?_;refine s_ret ?_;refine bQ ?_;refine a_d ?_;refine aJ (aZ (by rfl)) ?_;refine d9 ?_;refine bR List.nodup_nil rfl (tQ word) dC ?_;rintro r2;show SK [dv sign,dv word] _ _ _ _ _;exact lM rfl (bF (bF ak))
def bu (words:(List Tx)):T Empty ((Option (List (List (Option Tx))))) :=
 if(decide (((List.length words:Nat):Int) < (2:Int)))=true then(.ok (none:(Option (List (List (Option Tx)))))) else((T.ofO (atI words (0:Int))).bind λ x1 =>
 if(!(decide (x1=(tx "+"))))=true then(.ok (none:(Option (List (List (Option Tx)))))) else(if(!(memT ((tx "-"):Tx) words))=true then(.ok (none:(Option (List (List (Option Tx)))))) else((T.ofO (idxT words ((tx "-"):Tx))).bind λ x2 =>
 (T.lcs (cutT words (some (1:Int)) (some x2)) (λ(i3:Tx)=>(((cU i3).bind λ r5 =>
 .ok (some r5)):T Empty (Option (Option Tx))))).bind λ l4 =>
 (T.lcs (cutT words (some (x2+(1:Int))) none) (λ(i6:Tx)=>(((cU i6).bind λ r8 =>
 .ok (some r8)):T Empty (Option (Option Tx))))).bind λ l7 =>
 if((memT ((none:(Option Tx)):(Option Tx)) l4)||(memT ((none:(Option Tx)):(Option Tx)) l7))=true then(.ok (none:(Option (List (List (Option Tx)))))) else(.ok (some ([l4,l7]:List (List (Option Tx))))))))
theorem uz (words:(List Tx)):SK [dv words] Lw.gj (bu words) (λ r=>(optS r)) (λ r=>[none]) XV:=by
 unfold Lw.gj Lw.oE bu;refine oH (X':=XV) ?_ dC;show SK [dv words,none,none,none,none] _ _ _ _ _;refine bB ?_;refine qL ?_;refine wA ?_;refine aJ (qW (iH (z:=(Enc.enc ((decide (((List.length words:Nat):Int) < (2:Int))):Bool))) (wz (z:=(Enc.enc ((List.length words:Nat):Int))) (aC (by rfl)) (aaa _)) (dw (d:=Enc.enc (2:Int))) rfl)) ?_;refine afZ (x:=(decide (((List.length words:Nat):Int) < (2:Int)))) ?_ ?_
 ·refine pY ?_;refine s_ret ?_;refine aJ (vB dw) ?_;exact lM rfl (bF ak)
 refine wA ?_;refine e_B ?_;refine lB ?_;refine oJ (by rfl) ?_;refine aJ (dw (d:=Enc.enc (0:Int))) ?_;refine aJ (aC (by rfl)) ?_;refine gH (p:=atI words (0:Int)) (f:=Enc.enc) (aaH words (0:Int)) (λ x1=>?_);refine aJ (aQ "+") ?_;refine e_o (z:=(Enc.enc ((!(decide (x1=(tx "+")))):Bool))) (wW x1 ((tx "+"):Tx)) ?_;refine cZ ?_;refine afZ (x:=(!(decide (x1=(tx "+"))))) ?_ ?_
 ·refine pY ?_;refine s_ret ?_;refine aJ (vB dw) ?_;exact lM rfl (bF ak)
 refine aJ (qW (iH (z:=(Enc.enc ((!(memT ((tx "-"):Tx) words)):Bool))) (aQ "-") (aC (by rfl)) (akp ((tx "-"):Tx) words (by decide)))) ?_;refine qM (x:=(!(memT ((tx "-"):Tx) words))) ?_ ?_
 ·refine s_ret ?_;refine aJ (vB dw) ?_;exact lM rfl (bF ak)
 refine dX ?_;refine aO ?_;refine bB ?_;refine s_asg ?_;refine e_d ?_;refine afK ?_;refine aJ (aC (by rfl)) ?_;refine afL (xs:=words) ?_;refine aJ (aQ "-") ?_;refine gH (p:=idxT words ((tx "-"):Tx)) (f:=Enc.enc) (am7 _ _) (λ x2=>?_);refine dW rfl ?_;refine aO ?_;refine bB ?_;refine s_asg ?_;refine ahH ?_;refine lX ?_;refine aJ (jH (rW (aC (by rfl)) (j9 (dw (d:=Enc.enc (1:Int)))) (j9 (aZ (by rfl))) (qN _ _ _))) ?_;refine cZ ?_;refine akt (e:=Enc.enc) (ε':=Empty) (xs:=((cutT words (some (1:Int)) (some x2)):(List Tx))) [dv words,dv x2,none,none,none] (λ i3=>[dv words,dv x2,none,none,dv i3]) [dv words,dv x2,none,none,none] XV (oY (bF ak)) (λ i3=>il) (λ i3=>?_) (oY (bF ak)) (λ l4=>?_)
 ·refine aip ?_;refine ak8 ?_;refine aJ wX ?_;refine acU ?_;refine jg ?_;refine bQ ?_;refine a_d ?_;refine aJ (aZ (by rfl)) ?_;refine d9 ?_;refine bR List.nodup_nil rfl (lK i3) dC ?_;rintro r5;show SK [dv words,dv x2,none,none,dv i3] _ _ _ _ _;refine cZ ?_;exact oZ rfl (oY (bF ak))
 refine dW rfl ?_;refine aO ?_;refine bB ?_;refine s_asg ?_;refine ahH ?_;refine lX ?_;refine aJ (jH (rW (aC (by rfl)) (j9 (acR (iH (z:=(S.d (Enc.enc (x2+(1:Int))))) (aZ (by rfl)) (dw (d:=Enc.enc (1:Int))) rfl))) mW (qN _ _ _))) ?_;refine cZ ?_;refine akt (e:=Enc.enc) (ε':=Empty) (xs:=((cutT words (some (x2+(1:Int))) none):(List Tx))) [dv words,dv x2,lv l4,none,none] (λ i6=>[dv words,dv x2,lv l4,none,dv i6]) [dv words,dv x2,lv l4,none,none] XV (jn (bF ak)) (λ i6=>il) (λ i6=>?_) (jn (bF ak)) (λ l7=>?_)
 ·refine aip ?_;refine ak8 ?_;refine aJ wX ?_;refine acU ?_;refine jg ?_;refine bQ ?_;refine a_d ?_;refine aJ (aZ (by rfl)) ?_;refine d9 ?_;refine bR List.nodup_nil rfl (lK i6) dC ?_;rintro r8;show SK [dv words,dv x2,lv l4,none,dv i6] _ _ _ _ _;refine cZ ?_;exact oZ rfl (jn (bF ak))
 refine dW rfl ?_;refine aO ?_;refine bB ?_;refine s_if (x:=((memT ((none:(Option Tx)):(Option Tx)) l4)||(memT ((none:(Option Tx)):(Option Tx)) l7))) (aoG (qW (iH (z:=(Enc.enc ((memT ((none:(Option Tx)):(Option Tx)) l4):Bool))) dw (bD (by rfl)) (am0 ((none:(Option Tx)):(Option Tx)) l4 (by decide)))) (qW (iH (z:=(Enc.enc ((memT ((none:(Option Tx)):(Option Tx)) l7):Bool))) dw (bD (by rfl)) (am0 ((none:(Option Tx)):(Option Tx)) l7 (by decide))))) ?_ ?_
 ·refine s_ret ?_;refine aJ (vB dw) ?_;exact lM rfl (bF ak)
 refine dX ?_;refine aO ?_;refine s_ret ?_;refine yq ?_;refine lC ?_;refine t7 (by rfl) ?_;refine lC ?_;refine t7 (by rfl) ?_;refine aJ ir ?_;refine rQ (lnS (n:=2) rfl) ?_;refine cZ ?_;exact lM rfl (bF ak)
def gQ (text:Tx):T Empty (D) :=
 (T.ofO (splitT text ((tx " "):Tx))).bind λ w1 =>
 (T.ofO (atI w1 (0:Int))).bind λ x2 =>
 (jB x2).bind λ r3 =>
 if(Option.isNone r3)=true then(.ok (Enc.enc ():D)) else((T.ofO r3).bind λ u4 =>
 T.gd (replOk "+" "" u4) <|
 (T.ofO (lenT (replT "+" "" u4))).bind λ x5 =>
 (T.ofO (lenT (replT "+" "" u4))).bind λ x6 =>
 if(decide (((List.length w1:Nat):Int) < ((1:Int)+x6)))=true then(.ok (Enc.enc ():D)) else(if((decide (((replT "+" "" u4):Tx)=u4))&&(decide ((0:Int) < ((List.length (cutT w1 (some ((1:Int)+x5)) none):Nat):Int))))=true then(.ok (Enc.enc ():D)) else((T.lcs (List.zip (signsT (replT "+" "" u4)) (cutT w1 (some (1:Int)) none)) (λ(i7:(Tx×Tx))=>(((dR i7.1 i7.2).bind λ r9 =>
 .ok (some r9)):T Empty (Option D)))).bind λ l8 =>
 T.bindL ((if(!(decide (((replT "+" "" u4):Tx)=u4)))=true then((bu ((cutT w1 (some ((1:Int)+x5)) none):(List Tx))).bind λ r11 =>
 if(Option.isNone r11)=true then(.ok (.rt (Enc.enc ():D))) else((T.ofO r11).bind λ u12 =>
 (T.ofO (catT (encs l8) (encs u12))).bind λ x13 =>
 .ok (.nx x13))) else(.ok (.nx l8)):T Empty (T.Le ((List D)) (D)))) (λ parts10 =>
 (T.ofO (inND parts10)).bind λ x14 =>
 if x14=true then(.ok (Enc.enc ():D)) else((T.ofO (atI w1 (0:Int))).bind λ x15 =>
 (T.ofO (catT (encs (([x15]:List Tx):(List Tx))) (encs parts10))).bind λ x16 =>
 .ok (PyData.tuple x16))) (λ r_=>.ok r_))))
theorem ac6 (text:Tx):SK [dv text] Lw.mU (gQ text) (λ r=>(S.d (Enc.enc r))) (λ r=>[none]) XV:=by
 unfold Lw.mU Lw.wQ gQ;refine oH (X':=XV) ?_ dC;show SK [dv text,none,none,none,none,none,none,none,none] _ _ _ _ _;refine bB ?_;refine s_asg ?_;refine abm ?_;refine aJ (aZ (by rfl)) ?_;refine abn (x:=text) ?_;refine aJ (aQ " ") ?_;refine gH (p:=splitT text ((tx " "):Tx)) (f:=λ z=>S.ol (List.map Enc.enc z)) (abl (by decide) (by decide)) (λ w1=>?_);refine dW rfl ?_;refine aO ?_;refine bB ?_;refine s_asg ?_;refine bQ ?_;refine a_d ?_;refine oJ (by rfl) ?_;refine aJ (dw (d:=Enc.enc (0:Int))) ?_;refine aJ (bD (by rfl)) ?_;refine gH (p:=atI w1 (0:Int)) (f:=Enc.enc) (aaH w1 (0:Int)) (λ x2=>?_);refine d9 ?_;refine bR List.nodup_nil rfl (xm x2) dC ?_;rintro r3;show SK [dv text,lv w1,none,none,none,none,none,none,none] _ _ _ _ _;refine dW rfl ?_;refine aO ?_;refine bB ?_;refine s_if (x:=(Option.isNone r3)) (qW (iH (z:=(Enc.enc ((Option.isNone r3):Bool))) (aC (by rfl)) dw (amG r3))) ?_ ?_
 ·refine s_ret ?_;refine aJ (vB dw) ?_;exact lM rfl (bF ak)
 refine dX ?_;refine aO ?_;refine bB ?_;refine s_asg ?_;refine e_d ?_;refine wy ?_;refine aJ (aZ (by rfl)) ?_;rcases hhu4:r3 with _ | u4;exact aaG;show SK [dv text,lv w1,dv u4,none,none,none,none,none,none] _ _ _ _ _;refine aah ?_;refine ana (y:="+") (z:="") (x:=u4) ?_;refine dW rfl ?_;refine aO ?_;refine bB ?_;refine s_asg ?_;refine ahF ?_;refine aJ (bD (by rfl)) ?_;refine apg ?_;refine jg ?_;refine lB ?_;refine aJ (dw (d:=Enc.enc (1:Int))) ?_;refine wy ?_;refine aJ (aC (by rfl)) ?_;refine gH (p:=lenT (replT "+" "" u4)) (f:=Enc.enc) (ux _) (λ x5=>?_);refine e_o (z:=(S.d (Enc.enc ((1:Int)+x5:Int)))) rfl ?_;refine cZ ?_;refine cZ ?_;refine aJ mW ?_;refine e_o (z:=S.ol (List.map Enc.enc (cutT w1 (some ((1:Int)+x5)) none))) (qN _ _ _) ?_;refine dW rfl ?_;refine aO ?_;refine bB ?_;refine qL ?_;refine wA ?_;refine e_B ?_;refine lB ?_;refine aJ (wz (z:=(Enc.enc ((List.length w1:Nat):Int))) (bD (by rfl)) (aaa _)) ?_;refine jg ?_;refine lB ?_;refine aJ (dw (d:=Enc.enc (1:Int))) ?_;refine wy ?_;refine aJ (aC (by rfl)) ?_;refine gH (p:=lenT (replT "+" "" u4)) (f:=Enc.enc) (ux _) (λ x6=>?_);refine e_o (z:=(S.d (Enc.enc ((1:Int)+x6:Int)))) rfl ?_;refine cZ ?_;refine e_o (z:=(Enc.enc ((decide (((List.length w1:Nat):Int) < ((1:Int)+x6))):Bool))) rfl ?_;refine cZ ?_;refine afZ (x:=(decide (((List.length w1:Nat):Int) < ((1:Int)+x6)))) ?_ ?_
 ·refine pY ?_;refine s_ret ?_;refine aJ (vB dw) ?_;exact lM rfl (bF ak)
 refine aJ (aeX (qW (iH (z:=(Enc.enc ((decide (((replT "+" "" u4):Tx)=u4)):Bool))) (aC (by rfl)) (aC (by rfl)) (jW ((replT "+" "" u4):Tx) u4))) (qW (iH (z:=(Enc.enc ((decide ((0:Int) < ((List.length (cutT w1 (some ((1:Int)+x5)) none):Nat):Int))):Bool))) (wz (z:=(Enc.enc ((List.length (cutT w1 (some ((1:Int)+x5)) none):Nat):Int))) (bD (by rfl)) (aaa _)) (dw (d:=Enc.enc (0:Int))) rfl))) ?_;refine qM (x:=((decide (((replT "+" "" u4):Tx)=u4))&&(decide ((0:Int) < ((List.length (cutT w1 (some ((1:Int)+x5)) none):Nat):Int))))) ?_ ?_
 ·refine s_ret ?_;refine aJ (vB dw) ?_;exact lM rfl (bF ak)
 refine dX ?_;refine aO ?_;refine bB ?_;refine s_asg ?_;refine ahH ?_;refine apa ?_;refine aJ (bL (aZ (by rfl)) (bL (jH (rW (bD (by rfl)) (j9 (dw (d:=Enc.enc (1:Int)))) mW (qN _ _ _))) ir)) ?_;refine aoX (x:=((replT "+" "" u4):Tx)) (ys:=((cutT w1 (some (1:Int)) none):(List Tx))) ?_;refine akt (e:=Enc.enc) (ε':=Empty) (xs:=((List.zip (signsT (replT "+" "" u4)) (cutT w1 (some (1:Int)) none)):(List (Tx×Tx)))) [dv text,lv w1,dv u4,dv ((replT "+" "" u4):Tx),lv ((cutT w1 (some ((1:Int)+x5)) none):(List Tx)),none,none,none,none] (λ i7=>[dv text,lv w1,dv u4,dv ((replT "+" "" u4):Tx),lv ((cutT w1 (some ((1:Int)+x5)) none):(List Tx)),none,none,dv i7.1,dv i7.2]) [dv text,lv w1,dv u4,dv ((replT "+" "" u4):Tx),lv ((cutT w1 (some ((1:Int)+x5)) none):(List Tx)),none,none,none,none] XV (jm (qK (bF ak))) (λ i7=>(aiq (uK il (uK il aeT)) rfl)) (λ i7=>?_) (jm (qK (bF ak))) (λ l8=>?_)
 ·refine aip ?_;refine ak8 ?_;refine aJ wX ?_;refine acU ?_;refine jg ?_;refine bQ ?_;refine a_d ?_;refine aJ (aZ (by rfl)) ?_;refine a_d ?_;refine aJ (aZ (by rfl)) ?_;refine d9 ?_;refine bR List.nodup_nil rfl (vW i7.1 i7.2) dC ?_;rintro r9;show SK [dv text,lv w1,dv u4,dv ((replT "+" "" u4):Tx),lv ((cutT w1 (some ((1:Int)+x5)) none):(List Tx)),none,none,dv i7.1,dv i7.2] _ _ _ _ _;refine cZ ?_;exact oZ rfl (jm (qK (bF ak)))
 refine dW rfl ?_;refine aO ?_;refine bB ?_;refine amE (f:=(λ r=>(S.d (Enc.enc r)))) (Bn:=(λ v=>[dv text,lv w1,dv u4,dv ((replT "+" "" u4):Tx),none,lv v,none,none,none])) (Br:=(λ r=>[none,none,none,none,none,none,none,none,none])) ?_ ?_ ?_
 ·refine s_if (x:=(!(decide (((replT "+" "" u4):Tx)=u4)))) (qW (iH (z:=(Enc.enc ((!(decide (((replT "+" "" u4):Tx)=u4))):Bool))) (aC (by rfl)) (aC (by rfl)) (wW ((replT "+" "" u4):Tx) u4))) ?_ ?_
  ·refine bB ?_;refine s_asg ?_;refine bQ ?_;refine a_d ?_;refine t7 (by rfl) ?_;refine d9 ?_;refine bR List.nodup_nil rfl (uz ((cutT w1 (some ((1:Int)+x5)) none))) dC ?_;rintro r11;show SK [dv text,lv w1,dv u4,dv ((replT "+" "" u4):Tx),dv ((cutT w1 (some ((1:Int)+x5)) none):(List Tx)),lv l8,none,none,none] _ _ _ _ _;refine dW rfl ?_;refine aO ?_;refine bB ?_;refine s_if (x:=(Option.isNone r11)) (qW (amQ (o:=r11) (by rfl))) ?_ ?_
   ·refine s_ret ?_;refine aJ (vB dw) ?_;exact oZ rfl (eY (eY (bF ak)))
   refine dX ?_;refine aO ?_;refine s_asg ?_;refine lB ?_;refine t7 (by rfl) ?_;refine amO (o:=r11) (by rfl) ?_;rcases hhu12:r11 with _ | u12;exact aaG;show SK [dv text,lv w1,dv u4,dv ((replT "+" "" u4):Tx),dv ((cutT w1 (some ((1:Int)+x5)) none):(List Tx)),dv l8,dv u12,none,none] _ _ _ _ _;refine aah ?_;refine gH (p:=catT (encs l8) (encs u12)) (f:=(λ z=>S.ol (List.map Enc.enc z))) (am9 l8 u12) (λ x13=>?_);refine dW rfl ?_;exact oZ rfl (jm (aeS (bF ak)))
  refine dX ?_;exact oZ rfl (jm (aeS (bF ak)))
 ·rintro parts10;show SK [dv text,lv w1,dv u4,dv ((replT "+" "" u4):Tx),none,lv parts10,none,none,none] _ _ _ _ _;refine aO ?_;refine bB ?_;refine qL ?_;refine e_B ?_;refine lB ?_;refine aJ dw ?_;refine aJ (bD (by rfl)) ?_;refine gH (p:=inND parts10) (f:=Enc.enc) (aoU _) (λ x14=>?_);refine cZ ?_;refine qM (x:=x14) ?_ ?_
  ·refine s_ret ?_;refine aJ (vB dw) ?_;exact lM rfl (bF ak)
  refine dX ?_;refine aO ?_;refine s_ret ?_;refine e_d ?_;refine wy ?_;refine jg ?_;refine lB ?_;refine jg ?_;refine yq ?_;refine lC ?_;refine oJ (by rfl) ?_;refine aJ (dw (d:=Enc.enc (0:Int))) ?_;refine aJ (bD (by rfl)) ?_;refine gH (p:=atI w1 (0:Int)) (f:=Enc.enc) (aaH w1 (0:Int)) (λ x15=>?_);refine aJ ir ?_;refine rQ (lnS (n:=1) rfl) ?_;refine cZ ?_;refine cZ ?_;refine t7 (by rfl) ?_;refine gH (p:=catT (encs (([x15]:List Tx):(List Tx))) (encs parts10)) (f:=(λ z=>S.ol (List.map Enc.enc z))) (am9 (([x15]:List Tx):(List Tx)) parts10) (λ x16=>?_);refine cZ ?_;refine e_o (z:=(Enc.enc (PyData.tuple x16:D))) (aoV _) ?_;exact lM rfl (bF ak)
 rintro r_;show SK [none,none,none,none,none,none,none,none,none] _ _ _ _ _;exact lM rfl (bF ak)
def cJ (word:Tx):T Unit (Tx) :=
 (T.up (o8 word)).bind λ r1 =>
 if(!r1)=true then(.er 20 ()) else(.ok word)
theorem mD (word:Tx):SK [dv word] Lw.dM (cJ word) (λ r=>(S.d (Enc.enc r))) (λ r=>[none]) (λ _=>[none]):=by
 unfold Lw.dM Lw.pU cJ;refine oH (X':=λ _=>[none]) ?_ (λ _=>(bF ak));show SK [dv word] _ _ _ _ _;refine bB ?_;refine qL ?_;refine amC ?_;refine e_B ?_;refine jg ?_;refine bQ ?_;refine a_d ?_;refine aJ (aZ (by rfl)) ?_;refine d9 ?_;refine akl (fe:=Empty.elim) List.nodup_nil rfl (afd word) (λ e=>e.elim) ?_;rintro r1;show SK [dv word] _ _ _ _ _;refine cZ ?_;refine cZ ?_;refine qM (x:=(!r1)) ?_ ?_;exact lW (bF ak);refine dX ?_;refine aO ?_;refine s_ret ?_;refine z9 (by rfl) (by intro _ h;cases h) ?_;exact lM rfl (bF ak)
def dZ (word:Tx):T Unit (Int) :=
 (T.ofO (lenT word)).bind λ x1 =>
 if(decide (x1 < (1:Int)))=true then(.er 20 ()) else((T.ofO (lenT word)).bind λ x2 =>
 if(decide ((9:Int) < x2))=true then(.er 20 ()) else((((T.ofO (txAt word (0:Int))).bind λ x4 =>
 if(decide (x4=(tx "0")))=true then((T.ofO (lenT word)).bind λ x5 =>
 .ok (decide ((1:Int) < x5))) else(.ok false):T Unit (Bool))).bind λ b3 =>
 if b3=true then(.er 20 ()) else((T.forM (signsT word) (():Unit) (λ(i6:Tx) _=>(((T.ofO (ninTx i6 (tx "0123456789"))).bind λ x7 =>
 if x7=true then(.er 20 ()) else(.ok ())):T Unit (Unit)))).bind λ _ =>
 (T.ofO (intT word)).bind λ x8 =>
 .ok x8)))
theorem uA (word:Tx):SK [dv word] Lw.gq (dZ word) (λ r=>(S.d (Enc.enc r))) (λ r=>[none]) (λ _=>[none]):=by
 unfold Lw.gq Lw.oF dZ;refine oH (X':=λ _=>[none,none]) ?_ (λ _=>(bF ak));show SK [dv word,none] _ _ _ _ _;refine bB ?_;refine qL ?_;refine wA ?_;refine e_B ?_;refine lB ?_;refine wy ?_;refine aJ (aC (by rfl)) ?_;refine gH (p:=lenT word) (f:=Enc.enc) (ux _) (λ x1=>?_);refine aJ (dw (d:=Enc.enc (1:Int))) ?_;refine e_o (z:=(Enc.enc ((decide (x1 < (1:Int))):Bool))) rfl ?_;refine cZ ?_;refine afZ (x:=(decide (x1 < (1:Int)))) ?_ ?_
 ·refine pY ?_;exact lW (bF (bF ak))
 refine wA ?_;refine e_B ?_;refine lB ?_;refine wy ?_;refine aJ (aC (by rfl)) ?_;refine gH (p:=lenT word) (f:=Enc.enc) (ux _) (λ x2=>?_);refine aJ (dw (d:=Enc.enc (9:Int))) ?_;refine e_o (z:=(Enc.enc ((decide ((9:Int) < x2)):Bool))) rfl ?_;refine cZ ?_;refine afZ (x:=(decide ((9:Int) < x2))) ?_ ?_
 ·refine pY ?_;exact lW (bF (bF ak))
 refine amD (F1:=(λ p=>p)) (B1:=λ p=>[dv word,none]) ?_ ?_
 ·refine aip ?_;refine aiu ?_;refine e_B ?_;refine lB ?_;refine oJ (by rfl) ?_;refine aJ (dw (d:=Enc.enc (0:Int))) ?_;refine aJ (aC (by rfl)) ?_;refine gH (p:=txAt word (0:Int)) (f:=Enc.enc) (ant word (0:Int)) (λ x4=>?_);refine aJ (aQ "0") ?_;refine e_o (z:=(Enc.enc ((decide (x4=(tx "0"))):Bool))) (jW x4 ((tx "0"):Tx)) ?_;refine cZ ?_;refine amJ (x:=(decide (x4=(tx "0")))) ?_ ?_
  ·refine e_B ?_;refine lB ?_;refine wy ?_;refine aJ (aC (by rfl)) ?_;refine gH (p:=lenT word) (f:=Enc.enc) (ux _) (λ x5=>?_);refine aJ (dw (d:=Enc.enc (1:Int))) ?_;refine e_o (z:=(Enc.enc ((decide ((1:Int) < x5)):Bool))) rfl ?_;refine cZ ?_;exact oZ rfl (fu (bF ak))
  exact oZ rfl (fu (bF ak))
 rintro b3;show SK [dv word,none] _ _ _ _ _;refine qM (x:=b3) ?_ ?_;exact lW (bF (bF ak));refine dX ?_;refine aO ?_;refine bB ?_;refine rY ?_;refine lX ?_;refine aJ (aZ (by rfl)) ?_;refine uL (x:=word) ?_;refine acT (e:=Enc.enc) (xs:=((signsT word):(List Tx))) (v:=()) (λ v=>[dv word,none]) (λ i6 v=>[dv word,dv i6]) (fu (bF ak)) (λ i6 v=>il) (λ i6 v=>?_) (λ v=>?_)
 ·show SK [dv word,dv i6] _ _ _ _ _;refine qL ?_;refine e_B ?_;refine lB ?_;refine aJ (aC (by rfl)) ?_;refine aJ (aQ "0123456789") ?_;refine gH (p:=ninTx i6 (tx "0123456789")) (f:=Enc.enc) (aoT _ _) (λ x7=>?_);refine cZ ?_;refine qM (x:=x7) ?_ ?_;exact lW (bF (bF ak));refine dX ?_;exact oZ rfl (fu (bF ak))
 show SK [dv word,none] _ _ _ _ _;refine aO ?_;refine s_ret ?_;refine e_d ?_;refine wy ?_;refine aJ (aC (by rfl)) ?_;refine gH (p:=intT word) (f:=Enc.enc) (am8 _) (λ x8=>?_);exact lM rfl (bF ak)
def fP (words:(List Tx))(form:Tx):T Unit ((List Un)) :=
 (T.ofO (lenT form)).bind λ x1 =>
 if(!(decide ((((List.length words:Nat):Int):Int)=x1)))=true then(.er 20 ()) else((T.forM (List.zip words (signsT form)) (([]:List Un):(List Un)) (λ(i2:(Tx×Tx)) parts4=>((if(decide (i2.2=(tx "a")))=true then((cJ i2.1).bind λ r5 =>
 T.gd (parts4.length < sizeLine) <|
 .ok (parts4++[(Un.t r5)])) else((dZ i2.1).bind λ r6 =>
 T.gd (parts4.length < sizeLine) <|
 .ok (parts4++[(Un.i r6)]))):T Unit ((List Un))))).bind λ parts4 =>
 .ok parts4)
theorem pC (words:(List Tx))(form:Tx):SK [dv words,dv form] Lw.fK (fP words form) (λ r=>(S.ol (List.map Enc.enc r))) (λ r=>[none,none]) (λ _=>[none,none]):=by
 unfold Lw.fK Lw.oW fP;refine oH (X':=λ _=>[none,none,none,none,none]) ?_ (λ _=>(bF (bF ak)));show SK [dv words,dv form,none,none,none] _ _ _ _ _;refine bB ?_;refine qL ?_;refine e_B ?_;refine lB ?_;refine aJ (wz (z:=(Enc.enc ((List.length words:Nat):Int))) (aC (by rfl)) (aaa _)) ?_;refine wy ?_;refine aJ (aC (by rfl)) ?_;refine gH (p:=lenT form) (f:=Enc.enc) (ux _) (λ x1=>?_);refine e_o (z:=(Enc.enc ((!(decide ((((List.length words:Nat):Int):Int)=x1))):Bool))) (wW (((List.length words:Nat):Int):Int) x1) ?_;refine cZ ?_;refine qM (x:=(!(decide ((((List.length words:Nat):Int):Int)=x1)))) ?_ ?_;exact lW (eY (bF ak));refine dX ?_;refine aO ?_;refine bB ?_;refine s_asg ?_;refine aJ (rR ir (ln (n:=0) rfl)) ?_;refine dW rfl ?_;refine aO ?_;refine bB ?_;refine rY ?_;refine apa ?_;refine aJ (bL (aZ (by rfl)) (bL (aZ (by rfl)) ir)) ?_;refine aoW (xs:=words) (y:=form) ?_;refine acT (e:=Enc.enc) (xs:=((List.zip words (signsT form)):(List (Tx×Tx)))) (v:=([]:List Un)) (λ v=>[dv words,dv form,lv v,none,none]) (λ i2 v=>[dv words,dv form,lv v,dv i2.1,dv i2.2]) (jn (bF ak)) (λ i2 v=>(aiq (uK il (uK il aeT)) rfl)) (λ i2 v=>?_) (λ v=>?_)
 ·revert v;intro parts4;show SK [dv words,dv form,lv parts4,dv i2.1,dv i2.2] _ _ _ _ _;refine s_if (x:=(decide (i2.2=(tx "a")))) (qW (iH (z:=(Enc.enc ((decide (i2.2=(tx "a"))):Bool))) (aC (by rfl)) (aQ "a") (jW i2.2 ((tx "a"):Tx)))) ?_ ?_
  ·refine s_drop ?_;refine ahD (by rfl) ?_;refine jg ?_;refine bQ ?_;refine a_d ?_;refine aJ (aZ (by rfl)) ?_;refine d9 ?_;refine bR List.nodup_nil rfl (mD i2.1) (λ e=>(eY (bF ak))) ?_;rintro r5;show SK [dv words,dv form,lv parts4,dv i2.1,dv i2.2] _ _ _ _ _;refine cZ ?_;refine ahE (xs:=parts4) (x:=((Un.t r5):Un)) (by rfl) rfl ?_;exact oZ rfl (jn (bF ak))
  refine s_drop ?_;refine ahD (by rfl) ?_;refine jg ?_;refine bQ ?_;refine a_d ?_;refine aJ (aZ (by rfl)) ?_;refine d9 ?_;refine bR List.nodup_nil rfl (uA i2.1) (λ e=>(eY (bF ak))) ?_;rintro r6;show SK [dv words,dv form,lv parts4,dv i2.1,dv i2.2] _ _ _ _ _;refine cZ ?_;refine ahE (xs:=parts4) (x:=((Un.i r6):Un)) (by rfl) rfl ?_;exact oZ rfl (jn (bF ak))
 revert v;intro parts4;show SK [dv words,dv form,lv parts4,none,none] _ _ _ _ _;refine aO ?_;refine s_ret ?_;refine z9 (by rfl) (by intro _ h;cases h) ?_;exact lM rfl (bF (bF ak))
def bG (words:(List Tx)):T Unit ((List (List Tx))) :=
 if(decide (((List.length words:Nat):Int) < (2:Int)))=true then(.er 20 ()) else((T.ofO (atI words (0:Int))).bind λ x1 =>
 if(!(decide (x1=(tx "+"))))=true then(.er 20 ()) else(if(!(decide (((cntT words ((tx "-"):Tx)):Int)=(1:Int))))=true then(.er 20 ()) else((T.ofO (idxT words ((tx "-"):Tx))).bind λ x2 =>
 (T.lcsR (cutT words (some (1:Int)) (some x2)) (λ(i3:Tx)=>(((cJ i3).bind λ r5 =>
 .ok (some r5)):T Unit (Option Tx)))).bind λ l4 =>
 (T.lcsR (cutT words (some (x2+(1:Int))) none) (λ(i6:Tx)=>(((cJ i6).bind λ r8 =>
 .ok (some r8)):T Unit (Option Tx)))).bind λ l7 =>
 .ok ([l4,l7]:List (List Tx)))))
theorem vX (words:(List Tx)):SK [dv words] Lw.ie (bG words) (λ r=>(S.ol (List.map Enc.enc r))) (λ r=>[none]) (λ _=>[none]):=by
 unfold Lw.ie Lw.oV bG;refine oH (X':=λ _=>[none,none,none,none,none]) ?_ (λ _=>(bF ak));show SK [dv words,none,none,none,none] _ _ _ _ _;refine bB ?_;refine qL ?_;refine wA ?_;refine aJ (qW (iH (z:=(Enc.enc ((decide (((List.length words:Nat):Int) < (2:Int))):Bool))) (wz (z:=(Enc.enc ((List.length words:Nat):Int))) (aC (by rfl)) (aaa _)) (dw (d:=Enc.enc (2:Int))) rfl)) ?_;refine afZ (x:=(decide (((List.length words:Nat):Int) < (2:Int)))) ?_ ?_
 ·refine pY ?_;exact lW (eY (bF ak))
 refine wA ?_;refine e_B ?_;refine lB ?_;refine oJ (by rfl) ?_;refine aJ (dw (d:=Enc.enc (0:Int))) ?_;refine aJ (aC (by rfl)) ?_;refine gH (p:=atI words (0:Int)) (f:=Enc.enc) (aaH words (0:Int)) (λ x1=>?_);refine aJ (aQ "+") ?_;refine e_o (z:=(Enc.enc ((!(decide (x1=(tx "+")))):Bool))) (wW x1 ((tx "+"):Tx)) ?_;refine cZ ?_;refine afZ (x:=(!(decide (x1=(tx "+"))))) ?_ ?_
 ·refine pY ?_;exact lW (eY (bF ak))
 refine e_B ?_;refine lB ?_;refine aks (aC (by rfl)) ?_;refine aJ (aQ "-") ?_;refine e_o (z:=Enc.enc (cntT words ((tx "-"):Tx))) (akE _ _) ?_;refine aJ (dw (d:=Enc.enc (1:Int))) ?_;refine e_o (z:=(Enc.enc ((!(decide (((cntT words ((tx "-"):Tx)):Int)=(1:Int)))):Bool))) (wW ((cntT words ((tx "-"):Tx)):Int) ((1:Int))) ?_;refine cZ ?_;refine qM (x:=(!(decide (((cntT words ((tx "-"):Tx)):Int)=(1:Int))))) ?_ ?_;exact lW (eY (bF ak));refine dX ?_;refine aO ?_;refine bB ?_;refine s_asg ?_;refine e_d ?_;refine afK ?_;refine aJ (aC (by rfl)) ?_;refine afL (xs:=words) ?_;refine aJ (aQ "-") ?_;refine gH (p:=idxT words ((tx "-"):Tx)) (f:=Enc.enc) (am7 _ _) (λ x2=>?_);refine dW rfl ?_;refine aO ?_;refine bB ?_;refine s_asg ?_;refine aiF ?_;refine lX ?_;refine aJ (jH (rW (aC (by rfl)) (j9 (dw (d:=Enc.enc (1:Int)))) (j9 (aZ (by rfl))) (qN _ _ _))) ?_;refine cZ ?_;refine aiH (e:=Enc.enc) (xs:=((cutT words (some (1:Int)) (some x2)):(List Tx))) [dv words,dv x2,none,none,none] (λ i3=>[dv words,dv x2,none,none,dv i3]) [dv words,dv x2,none,none,none] (λ _=>[none,none,none,none,none]) (oY (bF ak)) (λ i3=>il) (λ i3=>?_) (oY (bF ak)) (λ _=>(eY (bF ak))) (λ l4=>?_)
 ·refine aip ?_;refine ak8 ?_;refine aJ wX ?_;refine acU ?_;refine jg ?_;refine bQ ?_;refine a_d ?_;refine aJ (aZ (by rfl)) ?_;refine d9 ?_;refine bR List.nodup_nil rfl (mD i3) (λ e=>(eY (bF ak))) ?_;rintro r5;show SK [dv words,dv x2,none,none,dv i3] _ _ _ _ _;refine cZ ?_;exact oZ rfl (oY (bF ak))
 refine dW rfl ?_;refine aO ?_;refine bB ?_;refine s_asg ?_;refine aiF ?_;refine lX ?_;refine aJ (jH (rW (aC (by rfl)) (j9 (acR (iH (z:=(S.d (Enc.enc (x2+(1:Int))))) (aZ (by rfl)) (dw (d:=Enc.enc (1:Int))) rfl))) mW (qN _ _ _))) ?_;refine cZ ?_;refine aiH (e:=Enc.enc) (xs:=((cutT words (some (x2+(1:Int))) none):(List Tx))) [dv words,dv x2,lv l4,none,none] (λ i6=>[dv words,dv x2,lv l4,none,dv i6]) [dv words,dv x2,lv l4,none,none] (λ _=>[none,none,none,none,none]) (jn (bF ak)) (λ i6=>il) (λ i6=>?_) (jn (bF ak)) (λ _=>(eY (bF ak))) (λ l7=>?_)
 ·refine aip ?_;refine ak8 ?_;refine aJ wX ?_;refine acU ?_;refine jg ?_;refine bQ ?_;refine a_d ?_;refine aJ (aZ (by rfl)) ?_;refine d9 ?_;refine bR List.nodup_nil rfl (mD i6) (λ e=>(eY (bF ak))) ?_;rintro r8;show SK [dv words,dv x2,lv l4,none,dv i6] _ _ _ _ _;refine cZ ?_;exact oZ rfl (jn (bF ak))
 refine dW rfl ?_;refine aO ?_;refine s_ret ?_;refine yq ?_;refine lC ?_;refine t7 (by rfl) ?_;refine lC ?_;refine t7 (by rfl) ?_;refine aJ ir ?_;refine rQ (lnS (n:=2) rfl) ?_;refine cZ ?_;exact lM rfl (bF ak)
def bH (text:Tx):T Unit (DeedT) :=
 (T.ofO (splitT text ((tx " "):Tx))).bind λ w1 =>
 (T.ofO (atI w1 (0:Int))).bind λ x2 =>
 if(!((List.lookup x2.s ([("come","abb"),("rise","abb"),("die","aba"),("penance","a"),("bring","ab"),("give","baab"),("pay","aabb"),("claim","abbb"),("wergild","aabbb"),("accuse","babb")]:List (Str×Str))).isSome))=true then(.er 20 ()) else((T.ofO (atI w1 (0:Int))).bind λ x3 =>
 (T.ofO (tabT ([("come","abb"),("rise","abb"),("die","aba"),("penance","a"),("bring","ab"),("give","baab"),("pay","aabb"),("claim","abbb"),("wergild","aabbb"),("accuse","babb")]:List (Str×Str)) x3)).bind λ x4 =>
 (T.ofO (atI w1 (0:Int))).bind λ x5 =>
 if(!(memT x5 ((Kt.mk ["claim","wergild","accuse"])).ts))=true then((T.ofO (atI w1 (0:Int))).bind λ x6 =>
 (fP ((cutT w1 (some (1:Int)) none):(List Tx)) x4).bind λ r7 =>
 (T.ofO (catT (([(Un.t x6)]:List Un):(List Un)) r7)).bind λ x8 =>
 .ok (DeedT.mk x8)) else((T.ofO (lenT x4)).bind λ x9 =>
 (T.ofO (atI w1 (0:Int))).bind λ x10 =>
 (fP ((cutT w1 (some (1:Int)) (some ((1:Int)+x9))):(List Tx)) x4).bind λ r11 =>
 (T.ofO (catT (([(Un.t x10)]:List Un):(List Un)) r11)).bind λ x12 =>
 (bG ((cutT w1 (some ((1:Int)+x9)) none):(List Tx))).bind λ r13 =>
 (T.ofO (catT x12 (List.map Un.l r13))).bind λ x14 =>
 .ok (DeedT.mk x14)))
theorem wD (text:Tx):SK [dv text] Lw.iU (bH text) (λ r=>(S.d (Enc.enc r))) (λ r=>[none]) (λ _=>[none]):=by
 unfold Lw.iU Lw.pW bH;refine oH (X':=λ _=>[none,none,none,none]) ?_ (λ _=>(bF ak));show SK [dv text,none,none,none] _ _ _ _ _;refine bB ?_;refine s_asg ?_;refine abm ?_;refine aJ (aZ (by rfl)) ?_;refine abn (x:=text) ?_;refine aJ (aQ " ") ?_;refine gH (p:=splitT text ((tx " "):Tx)) (f:=λ z=>S.ol (List.map Enc.enc z)) (abl (by decide) (by decide)) (λ w1=>?_);refine dW rfl ?_;refine aO ?_;refine bB ?_;refine qL ?_;refine e_B ?_;refine wy ?_;refine oJ (by rfl) ?_;refine aJ (dw (d:=Enc.enc (0:Int))) ?_;refine aJ (bD (by rfl)) ?_;refine gH (p:=atI w1 (0:Int)) (f:=Enc.enc) (aaH w1 (0:Int)) (λ x2=>?_);refine e_o (z:=(Enc.enc ((!((List.lookup x2.s ([("come","abb"),("rise","abb"),("die","aba"),("penance","a"),("bring","ab"),("give","baab"),("pay","aabb"),("claim","abbb"),("wergild","aabbb"),("accuse","babb")]:List (Str×Str))).isSome)):Bool))) rfl ?_;refine cZ ?_;refine qM (x:=(!((List.lookup x2.s ([("come","abb"),("rise","abb"),("die","aba"),("penance","a"),("bring","ab"),("give","baab"),("pay","aabb"),("claim","abbb"),("wergild","aabbb"),("accuse","babb")]:List (Str×Str))).isSome))) ?_ ?_;exact lW (eY ak);refine dX ?_;refine aO ?_;refine bB ?_;refine s_asg ?_;refine e_d ?_;refine wy ?_;refine oJ (by rfl) ?_;refine aJ (dw (d:=Enc.enc (0:Int))) ?_;refine aJ (bD (by rfl)) ?_;refine gH (p:=atI w1 (0:Int)) (f:=Enc.enc) (aaH w1 (0:Int)) (λ x3=>?_);refine gH (p:=tabT ([("come","abb"),("rise","abb"),("die","aba"),("penance","a"),("bring","ab"),("give","baab"),("pay","aabb"),("claim","abbb"),("wergild","aabbb"),("accuse","babb")]:List (Str×Str)) x3) (f:=Enc.enc) (aoO (by decide) _) (λ x4=>?_);refine dW rfl ?_;refine aO ?_;refine bB ?_;refine qL ?_;refine e_B ?_;refine lB ?_;refine oJ (by rfl) ?_;refine aJ (dw (d:=Enc.enc (0:Int))) ?_;refine aJ (bD (by rfl)) ?_;refine gH (p:=atI w1 (0:Int)) (f:=Enc.enc) (aaH w1 (0:Int)) (λ x5=>?_);refine aJ (dw (d:=Enc.enc (Kt.mk ["claim","wergild","accuse"]))) ?_;refine e_o (z:=(Enc.enc ((!(memT x5 ((Kt.mk ["claim","wergild","accuse"])).ts)):Bool))) (ahT x5 (Kt.mk ["claim","wergild","accuse"])) ?_;refine cZ ?_;refine qM (x:=(!(memT x5 ((Kt.mk ["claim","wergild","accuse"])).ts))) ?_ ?_
 ·refine s_ret ?_;refine e_d ?_;refine wy ?_;refine jg ?_;refine lB ?_;refine jg ?_;refine yq ?_;refine lC ?_;refine oJ (by rfl) ?_;refine aJ (dw (d:=Enc.enc (0:Int))) ?_;refine aJ (bD (by rfl)) ?_;refine gH (p:=atI w1 (0:Int)) (f:=Enc.enc) (aaH w1 (0:Int)) (λ x6=>?_);refine aJ ir ?_;refine rQ (lnS (n:=1) rfl) ?_;refine cZ ?_;refine cZ ?_;refine jg ?_;refine bQ ?_;refine a_d ?_;refine aJ (jH (rW (bD (by rfl)) (j9 (dw (d:=Enc.enc (1:Int)))) mW (qN _ _ _))) ?_;refine a_d ?_;refine aJ (aZ (by rfl)) ?_;refine d9 ?_;refine bR List.nodup_nil rfl (pC ((cutT w1 (some (1:Int)) none)) x4) (λ e=>(eY ak)) ?_;rintro r7;show SK [dv text,lv w1,dv x4,none] _ _ _ _ _;refine cZ ?_;refine gH (p:=catT (([(Un.t x6)]:List Un):(List Un)) r7) (f:=(λ z=>S.ol (List.map Enc.enc z))) (yr (([(Un.t x6)]:List Un):(List Un)) r7) (λ x8=>?_);refine cZ ?_;refine e_o (z:=(Enc.enc (DeedT.mk x8))) (afJ _) ?_;exact lM rfl (bF ak)
 refine dX ?_;refine aO ?_;refine bB ?_;refine s_asg ?_;refine lB ?_;refine aJ (dw (d:=Enc.enc (1:Int))) ?_;refine wy ?_;refine aJ (aC (by rfl)) ?_;refine gH (p:=lenT x4) (f:=Enc.enc) (ux _) (λ x9=>?_);refine e_o (z:=(S.d (Enc.enc ((1:Int)+x9:Int)))) rfl ?_;refine dW rfl ?_;refine aO ?_;refine s_ret ?_;refine e_d ?_;refine wy ?_;refine jg ?_;refine lB ?_;refine jg ?_;refine lB ?_;refine jg ?_;refine yq ?_;refine lC ?_;refine oJ (by rfl) ?_;refine aJ (dw (d:=Enc.enc (0:Int))) ?_;refine aJ (bD (by rfl)) ?_;refine gH (p:=atI w1 (0:Int)) (f:=Enc.enc) (aaH w1 (0:Int)) (λ x10=>?_);refine aJ ir ?_;refine rQ (lnS (n:=1) rfl) ?_;refine cZ ?_;refine cZ ?_;refine jg ?_;refine bQ ?_;refine a_d ?_;refine aJ (jH (rW (bD (by rfl)) (j9 (dw (d:=Enc.enc (1:Int)))) (j9 (aZ (by rfl))) (qN _ _ _))) ?_;refine a_d ?_;refine aJ (aZ (by rfl)) ?_;refine d9 ?_;refine bR List.nodup_nil rfl (pC ((cutT w1 (some (1:Int)) (some ((1:Int)+x9)))) x4) (λ e=>(eY ak)) ?_;rintro r11;show SK [dv text,lv w1,dv x4,dv (((1:Int)+x9):Int)] _ _ _ _ _;refine cZ ?_;refine gH (p:=catT (([(Un.t x10)]:List Un):(List Un)) r11) (f:=(λ z=>S.ol (List.map Enc.enc z))) (yr (([(Un.t x10)]:List Un):(List Un)) r11) (λ x12=>?_);refine cZ ?_;refine jg ?_;refine bQ ?_;refine a_d ?_;refine aJ (jH (rW (bD (by rfl)) (j9 (aZ (by rfl))) mW (qN _ _ _))) ?_;refine d9 ?_;refine bR List.nodup_nil rfl (vX ((cutT w1 (some ((1:Int)+x9)) none))) (λ e=>(eY ak)) ?_;rintro r13;show SK [dv text,lv w1,dv x4,dv (((1:Int)+x9):Int)] _ _ _ _ _;refine cZ ?_;refine gH (p:=catT x12 (List.map Un.l r13)) (f:=(λ z=>S.ol (List.map Enc.enc z))) (aiC x12 r13) (λ x14=>?_);refine cZ ?_;refine e_o (z:=(Enc.enc (DeedT.mk x14))) (afJ _) ?_;exact lM rfl (bF ak)
def jr (text:Tx):T Empty ((List D)) :=
 ((T.tryE [20] (((bH text).bind λ r2 =>
 .ok ([(Enc.enc (tx "told"):D),(Enc.enc r2:D)]:List D)):T Unit ((List D))) (λ k_=>((.ok ([(Enc.enc (tx "refused"):D),(Enc.enc ((decide (k_=20))&&true):D)]:List D)):T Empty ((List D))))):T Empty ((List D))).bind λ found1 =>
 .ok found1
theorem abr (text:Tx):SK [dv text] Lw.jL (jr text) (λ r=>(S.ol (List.map Enc.enc r))) (λ r=>[none]) XV:=by
 unfold Lw.jL Lw.vz jr;refine oH (X':=XV) ?_ dC;show SK [dv text,none,none] _ _ _ _ _;refine bB ?_;refine s_asg ?_;refine aJ (rR (bL (aQ "told") (bL dw ir)) (ln (n:=2) rfl)) ?_;refine dW (A':=[dv text,lv (([(Enc.enc (some (tx "told")):D),(Enc.enc (none:(Option Tx)):D)]:List D):(List D)),none]) rfl ?_;refine aO ?_;refine bB ?_;refine aoJ (B1:=λ v=>[dv text,lv v,none]) (XA:=[dv text,lv (([(Enc.enc (some (tx "told")):D),(Enc.enc (none:(Option Tx)):D)]:List D):(List D)),none]) ?_ (λ k_=>?_) (Nat.le_of_ble_eq_true rfl) (λ _=>rfl) ?_
 ·refine s_asg ?_;refine yq ?_;refine lC ?_;refine aJ (aQ "told") ?_;refine lC ?_;refine jg ?_;refine bQ ?_;refine a_d ?_;refine aJ (aZ (by rfl)) ?_;refine d9 ?_;refine bR List.nodup_nil rfl (wD text) (λ e=>(fu (fu (bF ak)))) ?_;rintro r2;show SK [dv text,lv (([(Enc.enc (some (tx "told")):D),(Enc.enc (none:(Option Tx)):D)]:List D):(List D)),none] _ _ _ _ _;refine cZ ?_;refine aJ ir ?_;refine rQ (lnS (n:=2) rfl) ?_;refine cZ ?_;refine dW rfl ?_;exact oZ rfl (fu (fu (bF ak)))
 ·show SS [dv text,lv (([(Enc.enc (some (tx "told")):D),(Enc.enc (none:(Option Tx)):D)]:List D):(List D)),none] _ _ _ _ _ _;refine s_asg ?_;refine aJ (rR (bL (aQ "refused") (bL (akq (dw (d:=Enc.enc (decide (k_=20)))) (dw (d:=Enc.enc true))) ir)) (ln (n:=2) rfl)) ?_;refine dW rfl ?_;exact oZ rfl (fu (fu (bF ak)))
 rintro found1;show SK [dv text,lv found1,none] _ _ _ _ _;refine aO ?_;refine s_ret ?_;refine z9 (by rfl) (by intro _ h;cases h) ?_;exact lM rfl (bF ak)
def nj (apP:List Int):T Empty (Bool) :=
 (ae4 apP).bind λ r1 =>
 (iW r1 ((4:Int))).bind λ(r2,src3) =>
 (vC src3 (((1:Int)+r2):Int)).bind λ(r4,src5) =>
 T.gd (inR (4:Int)) <|
 T.bindL (T.forL (rangeT (Int.toNat (4:Int))) (src5:SrcT) (λ(i6:Int) src8=>(((jf src8 r4).bind λ(r9,src10) =>
 (lJ r9).bind λ r11 =>
 (iW src10 ((4:Int))).bind λ(r12,src13) =>
 T.gd (inR r12) <|
 (T.forM (rangeT (Int.toNat r12)) ((src13,r11):SrcT×Tx) (λ(i14:Int) (src17,text18)=>(((j5 src17 text18).bind λ(r19,src20) =>
 .ok (src20,r19)):T Empty (SrcT×Tx)))).bind λ(src17,text18) =>
 (gQ text18).bind λ r21 =>
 (jr text18).bind λ r22 =>
 if(nonD r21)=true then((T.ofO (neDL r22 (([(Enc.enc (tx "refused"):D),(Enc.enc true:D)]:List D):(List D)))).bind λ x23 =>
 if x23=true then(.ok (.rt false)) else(.ok (.nx src17))) else((vI ((Enc.enc r22:D):D) ((Enc.enc ([(Enc.enc (tx "told"):D),r21]:List D):D):D)).bind λ r24 =>
 if(!r24)=true then(.ok (.rt false)) else(.ok (.nx src17)))):T Empty (T.Lp (SrcT) (Bool))))) (λ src8 =>
 .ok true) (λ r_=>.ok r_)
theorem ac7 (apP:List Int):SK [some (.scr apP)] Lw.jx (nj apP) (λ r=>(S.d (Enc.enc r))) (λ r=>[some (.scr apP)]) XV:=by
 unfold Lw.jx Lw.wR nj;refine oH (X':=XV) ?_ dC;show SK [some (.scr apP),none,none,none,none,none,none,none] _ _ _ _ _;refine bB ?_;refine s_asg ?_;refine bQ ?_;refine a_r (by rfl) ?_;refine d9 ?_;refine bR (by show List.Nodup [0];decide) rfl (aoH apP) dC ?_;rintro r1;show SK [some (.scr apP),none,none,none,none,none,none,none] _ _ _ _ _;refine dW rfl ?_;refine aO ?_;refine bB ?_;refine s_asg ?_;refine e_d ?_;refine jg ?_;refine bQ ?_;refine a_r (by rfl) ?_;refine a_d ?_;refine jg ?_;refine lB ?_;refine aJ (dw (d:=Enc.enc (1:Int))) ?_;refine jg ?_;refine bQ ?_;refine a_r (by rfl) ?_;refine a_d ?_;refine aJ (dw (d:=Enc.enc (4:Int))) ?_;refine d9 ?_;refine bR (by show List.Nodup [1];decide) rfl (jX r1 ((4:Int))) dC ?_;rintro⟨r2,src3⟩;show SK [some (.scr apP),some src3.1,none,none,none,none,none,none] _ _ _ _ _;refine cZ ?_;refine e_o (z:=(S.d (Enc.enc ((1:Int)+r2:Int)))) rfl ?_;refine cZ ?_;refine d9 ?_;refine bR (by show List.Nodup [1];decide) rfl (akx src3 (((1:Int)+r2))) dC ?_;rintro⟨r4,src5⟩;show SK [some (.scr apP),some src5.1,none,none,none,none,none,none] _ _ _ _ _;refine cZ ?_;refine dW rfl ?_;refine aO ?_;refine bB ?_;refine rY ?_;refine ae0 ?_;refine aJ (bL (dw (d:=Enc.enc (4:Int))) ir) ?_;refine ae1 (n:=(4:Int)) ?_;refine ae2 (e:=Enc.enc) (xs:=((rangeT (Int.toNat (4:Int))):(List Int))) (v:=(src5:SrcT)) (λ v=>[some (.scr apP),some v.1,dv r4,none,none,none,none,none]) (λ r=>[some (.scr apP),none,none,none,none,none,none,none]) (λ(r:Bool)=>(S.d (Enc.enc r))) (λ i6 v=>[some (.scr apP),some v.1,dv r4,dv i6,none,none,none,none]) (jn (eY ak)) (λ i6 v=>il) (λ i6 v=>?_) (λ v=>?_) (λ r=>?_)
 ·revert v;intro src8;show SK [some (.scr apP),some src8.1,dv r4,dv i6,none,none,none,none] _ _ _ _ _;refine bB ?_;refine s_asg ?_;refine e_d ?_;refine jg ?_;refine bQ ?_;refine a_d ?_;refine jg ?_;refine bQ ?_;refine a_r (by rfl) ?_;refine a_r (by rfl) ?_;refine d9 ?_;refine bR (by show List.Nodup [1,2];decide) rfl (wC src8 r4) dC ?_;rintro⟨r9,src10⟩;show SK [some (.scr apP),some src10.1,dv r4,dv i6,none,none,none,none] _ _ _ _ _;refine cZ ?_;refine d9 ?_;refine bR List.nodup_nil rfl (abq r9) dC ?_;rintro r11;show SK [some (.scr apP),some src10.1,dv r4,dv i6,none,none,none,none] _ _ _ _ _;refine cZ ?_;refine dW rfl ?_;refine aO ?_;refine bB ?_;refine rY ?_;refine ae0 ?_;refine lC ?_;refine jg ?_;refine bQ ?_;refine a_r (by rfl) ?_;refine a_d ?_;refine aJ (dw (d:=Enc.enc (4:Int))) ?_;refine d9 ?_;refine bR (by show List.Nodup [1];decide) rfl (jX src10 ((4:Int))) dC ?_;rintro⟨r12,src13⟩;show SK [some (.scr apP),some src13.1,dv r4,dv i6,dv r11,none,none,none] _ _ _ _ _;refine cZ ?_;refine aJ ir ?_;refine ae1 (n:=r12) ?_;refine acT (e:=Enc.enc) (xs:=((rangeT (Int.toNat r12)):(List Int))) (v:=(src13,r11)) (λ v=>[some (.scr apP),some v.1.1,dv r4,dv i6,dv v.2,none,none,none]) (λ i14 v=>[some (.scr apP),some v.1.1,dv r4,dv i6,dv v.2,dv i14,none,none]) (jm (qK ak)) (λ i14 v=>il) (λ i14 v=>?_) (λ v=>?_)
  ·obtain⟨src17,text18⟩:=v;show SK [some (.scr apP),some src17.1,dv r4,dv i6,dv text18,dv i14,none,none] _ _ _ _ _;refine s_asg ?_;refine e_d ?_;refine jg ?_;refine bQ ?_;refine a_r (by rfl) ?_;refine a_r (by rfl) ?_;refine d9 ?_;refine bR (by show List.Nodup [1,4];decide) rfl (aaq src17 text18) dC ?_;rintro⟨r19,src20⟩;show SK [some (.scr apP),some src20.1,dv r4,dv i6,dv text18,dv i14,none,none] _ _ _ _ _;refine cZ ?_;refine dW rfl ?_;exact oZ rfl (jm (qK ak))
  obtain⟨src17,text18⟩:=v;show SK [some (.scr apP),some src17.1,dv r4,dv i6,dv text18,none,none,none] _ _ _ _ _;refine aO ?_;refine bB ?_;refine s_asg ?_;refine e_d ?_;refine jg ?_;refine bQ ?_;refine a_d ?_;refine aJ (aZ (by rfl)) ?_;refine d9 ?_;refine bR List.nodup_nil rfl (ac6 text18) dC ?_;rintro r21;show SK [some (.scr apP),some src17.1,dv r4,dv i6,dv text18,none,none,none] _ _ _ _ _;refine cZ ?_;refine dW rfl ?_;refine aO ?_;refine bB ?_;refine s_asg ?_;refine e_d ?_;refine jg ?_;refine akF ?_;refine aph ?_;refine aJ (aZ (by rfl)) ?_;refine amR ?_;refine bR List.nodup_nil rfl (abr text18) dC ?_;rintro r22;show SK [some (.scr apP),some src17.1,dv r4,dv i6,dv text18,none,dv r21,none] _ _ _ _ _;refine cZ ?_;refine dW rfl ?_;refine aO ?_;refine s_if (x:=(nonD r21)) (qW (iH (z:=(Enc.enc ((nonD r21):Bool))) (aC (by rfl)) dw (amU r21))) ?_ ?_
  ·refine qL ?_;refine e_B ?_;refine lB ?_;refine aJ (aC (by rfl)) ?_;refine aJ (jH (rR (bL (aQ "refused") (bL (dw (d:=Enc.enc true)) ir)) (ln (n:=2) rfl))) ?_;refine gH (p:=neDL r22 (([(Enc.enc (tx "refused"):D),(Enc.enc true:D)]:List D):(List D))) (f:=Enc.enc) (apl r22 (([(Enc.enc (tx "refused"):D),(Enc.enc true:D)]:List D):(List D))) (λ x23=>?_);refine cZ ?_;refine qM (x:=x23) ?_ ?_
   ·refine s_ret ?_;refine aJ (vB (dw (d:=Enc.enc false))) ?_;exact oZ rfl (qK (eY ak))
   refine dX ?_;exact oZ rfl (jn (eY ak))
  refine qL ?_;refine amC ?_;refine e_B ?_;refine jg ?_;refine bQ ?_;refine a_d ?_;refine aJ (aZ (by rfl)) ?_;refine a_d ?_;refine aJ (jH (rR (bL (aQ "told") (bL (aZ (by rfl)) ir)) (ln (n:=2) rfl))) ?_;refine d9 ?_;refine bR List.nodup_nil rfl (akz ((Enc.enc r22:D)) ((Enc.enc ([(Enc.enc (tx "told"):D),r21]:List D):D))) dC ?_;rintro r24;show SK [some (.scr apP),some src17.1,dv r4,dv i6,dv text18,none,dv r21,dv r22] _ _ _ _ _;refine cZ ?_;refine cZ ?_;refine qM (x:=(!r24)) ?_ ?_
  ·refine s_ret ?_;refine aJ (vB (dw (d:=Enc.enc false))) ?_;exact oZ rfl (qK (eY ak))
  refine dX ?_;exact oZ rfl (jn (eY ak))
 ·revert v;intro src8;show SK [some (.scr apP),some src8.1,dv r4,none,none,none,none,none] _ _ _ _ _;refine aO ?_;refine s_ret ?_;refine aJ (vB (dw (d:=Enc.enc true))) ?_;exact lM rfl (fu ak)
 revert r;intro r_;show SK [some (.scr apP),none,none,none,none,none,none,none] _ _ _ _ _;exact lM rfl (fu ak)
end Ty
namespace Ty
open PySem VS L2
def nmB (w:Tx):Bool:=Lw.isN (w.cs.map (·.val))
def digB (c:Nat):Bool:=decide (48<=c/\c<=57)
def zro:Fin 1114112:=⟨48,by decide⟩
def nuB (w:Tx):Bool:=decide (1<=w.cs.length/\w.cs.length<=9)&&(!(decide (w.cs[0]?=some zro)&&decide (1 < w.cs.length))&&w.cs.all λ c=>digB c.val)
def nuV (w:Tx):Int:=(intT w).getD 0
theorem digits_of {w:Tx}(h:(w.cs.all λ c=>digB c.val)=true):PySem.NumText.AllDigits w.s.cps.toList:=λ c hc=>by
 rw[Tx.s_list]at hc
 obtain⟨d,hd,rfl⟩:=List.mem_map.mp hc
 exact of_decide_eq_true (List.all_eq_true.mp h d hd)
theorem afO {w:Tx}(h:nuB w=true):intT w=some (nuV w):=by
 unfold nuB at h
 simp only[Bool.and_eq_true,decide_eq_true_eq]at h
 obtain⟨⟨h1,h2⟩,_,h3⟩:=h
 have e:PySem.intText? w.s=some ((PySem.NumText.digitsVal w.s.cps.toList:Nat):Int):=PySem.intText_digits (digits_of h3) (by
  rw[Tx.s_list];intro q
  have:=congrArg List.length q
  rw[List.length_map,List.length_nil]at this
  omega) (by rw[Tx.s_len];omega)
 have:intT w=some ((PySem.NumText.digitsVal w.s.cps.toList:Nat):Int):=by
  unfold intT;rw[if_pos (by rw[Tx.s_len];omega),e]
 unfold nuV;rw[this]
 rfl
theorem lt1 (c d:Fin 1114112):ltT ⟨[c]⟩ ⟨[d]⟩=decide (c.val < d.val):=by
 unfold ltT;rw[Tx.s_list,Tx.s_list,decide_eq_decide];show [c.val] < [d.val]↔_;rw[List.cons_lt_cons_iff]
 simp
theorem qT {w:Tx}(h:w.cs.length<=100000):lenT w=some (w.cs.length:Int):=if_pos (sz _ (by omega))
theorem vY (x:Tx)(p:Fin 1114112->Bool)(q:Tx->Bool)(h:∀ c,q ⟨[c]⟩=!p c):(signsT x).any q=!x.cs.all p:=by
 unfold signsT;rw[List.any_map]
 induction x.cs with
 | nil=>rfl
 | cons c cs ih =>
  rw[List.any_cons,List.all_cons,ih];show(q ⟨[c]⟩||_)=_;rw[h]
  cases p c<;>simp
theorem xq {w:Tx}(h:w.cs.length<=100000):cU w=.ok (if nmB w=true then some w else none):=by
 have hsm:∀ c:Fin 1114112,(!((!ltT ⟨[c]⟩ (tx "a"))&&(!ltT (tx "z") ⟨[c]⟩)))=!Lw.smallB c.val:=λ c=>by
  rw[apj,apk];unfold Lw.smallB
  by_cases hc:97<=c.val/\c.val<=122
  ·rw[decide_eq_true hc,decide_eq_false (by omega),decide_eq_false (by omega)]
   rfl
  ·rw[decide_eq_false hc]
   by_cases h2:c.val < 97
   ·rw[decide_eq_true h2]
    rfl
   ·rw[decide_eq_false h2,decide_eq_true (show 122 < c.val by omega)]
    rfl
 unfold cU;rw[vD (p:=λ i1=>!((!ltT i1 (tx "a"))&&(!ltT (tx "z") i1))) (r:=()) λ x _=>rfl,vY w (λ c=>Lw.smallB c.val) _ hsm];unfold nmB Lw.isN;rw[List.length_map,List.all_map];show T.bindL (if(!w.cs.all λ c=>Lw.smallB c.val)=true then _ else _) _ _=T.ok (if(_&&w.cs.all λ c=>Lw.smallB c.val)=true then _ else _)
 cases hb:w.cs.all λ c=>Lw.smallB c.val with
 | false =>
  rw[Bool.and_false,if_pos (by rfl),T.bindL_rt,if_neg (by decide)]
 | true =>
  rw[Bool.and_true,if_neg (by decide),T.bindL_nx,qT h,aa,aa]
  by_cases h1:w.cs.length < 1
  ·rw[if_pos (decide_eq_true (by omega)),if_neg (by rw[decide_eq_true_eq];omega)]
  ·rw[if_neg (by rw[decide_eq_true_eq];omega)]
   by_cases h2:12 < w.cs.length
   ·rw[if_pos (decide_eq_true (by omega)),if_neg (by rw[decide_eq_true_eq];omega)]
   ·rw[if_neg (by rw[decide_eq_true_eq];omega),if_pos (by rw[decide_eq_true_eq];omega)]
theorem anb (c:Fin 1114112):(!((!ltT ⟨[c]⟩ (tx "0"))&&(!ltT (tx "9") ⟨[c]⟩)))=!digB c.val:=by
 have e0:tx "0"=⟨[⟨48,by decide⟩]⟩:=by decide
 have e9:tx "9"=⟨[⟨57,by decide⟩]⟩:=by decide
 rw[e0,e9,lt1,lt1];unfold digB
 dsimp only
 by_cases hc:48<=c.val/\c.val<=57
 ·rw[decide_eq_true hc,decide_eq_false (by omega),decide_eq_false (by omega)]
  rfl
 ·rw[decide_eq_false hc]
  by_cases h2:c.val < 48
  ·rw[decide_eq_true h2]
   rfl
  ·rw[decide_eq_false h2,decide_eq_true (show 57 < c.val by omega)]
   rfl
theorem aiI {w:Tx}{c:Fin 1114112}{cs:List (Fin 1114112)}(h:w.cs=c::cs)(hl:w.cs.length<=100000):txAt w (0:Int)=some ⟨[c]⟩:=by
 unfold txAt;rw[if_pos (sz _ (by omega)),show(0:Int)=((0:Nat):Int) from rfl,lN,h]
 rfl
theorem is0 (c:Fin 1114112):decide ((⟨[c]⟩:Tx)=tx "0")=decide (c=zro):=by
 have e0:tx "0"=⟨[zro]⟩:=by decide
 rw[e0,decide_eq_decide]
 constructor
 ·intro h
  injection h with h
  injection h
 ·rintro rfl
  rfl
theorem afP {w:Tx}(h:w.cs.length<=100000):fO w=.ok (if nuB w=true then some (nuV w) else none):=by
 have hnu:nuB w=true->intT w=some (nuV w):=afO
 unfold fO;obtain⟨cs⟩:=w
 match cs,h,hnu with
 | [],h,hnu =>
  rw[if_pos (show decide ((⟨[]⟩:Tx)=tx "")=true by decide)]
  rfl
 | c::cs,h,hnu =>
  have hne:decide ((⟨c::cs⟩:Tx)=tx "")=false:=by
   have e:tx ""=⟨[]⟩:=by decide
   rw[e]
   exact decide_eq_false λ q=>by injection q with q;cases q
  rw[if_neg (by rw[hne];decide),qT h,aa]
  have hl:(⟨c::cs⟩:Tx).cs.length=cs.length+1:=rfl
  by_cases h9:9 < (⟨c::cs⟩:Tx).cs.length
  ·rw[if_pos (decide_eq_true (by omega))];rw[if_neg (by unfold nuB;simp;omega)]
  ·rw[if_neg (by rw[decide_eq_true_eq];omega),aiI (w:=⟨c::cs⟩) rfl h,aa,is0]
   have hw0:decide ((⟨c::cs⟩:Tx)=tx "0")=(decide (c=zro)&&decide (cs=[])):=by
    have e0:tx "0"=⟨[zro]⟩:=by decide
    rw[e0]
    by_cases hc:c=zro
    ·by_cases hcs:cs=[]
     ·subst hc hcs
      rfl
     ·rw[decide_eq_false hcs,Bool.and_false]
      exact decide_eq_false λ q=>by injection q with q;injection q with q1 q2;exact hcs q2
    ·rw[decide_eq_false hc,Bool.false_and]
     exact decide_eq_false λ q=>by injection q with q;injection q with q1 q2;exact hc q1
   have hb:(if decide (c=zro)=true then(T.ok (!(decide ((⟨c::cs⟩:Tx)=tx "0"))):T Empty Bool) else .ok false)=.ok (decide (c=zro)&&decide (1 < cs.length+1)):=by
    rw[hw0]
    by_cases hc:c=zro
    ·rw[if_pos (decide_eq_true hc),decide_eq_true hc,Bool.true_and,Bool.true_and]
     congr 1
     cases cs with
     | nil=>rfl
     | cons d cs=>simp
    ·rw[if_neg (by rw[decide_eq_false hc];decide),decide_eq_false hc,Bool.false_and]
   rw[hb,T.ok_bind]
   have hnb:nuB ⟨c::cs⟩=(!(decide (c=zro)&&decide (1 < cs.length+1))&&(c::cs).all λ c=>digB c.val):=by
    unfold nuB
    dsimp only
    rw[decide_eq_true (show 1<=(c::cs).length/\(c::cs).length<=9 from⟨by simp,by have:=h9;simp only[List.length_cons]at this ⊢;omega⟩),Bool.true_and]
    have:decide ((c::cs)[0]?=some zro)=decide (c=zro):=by
     rw[decide_eq_decide]
     simp
    rw[this]
    rfl
   rw[hnb]at hnu ⊢
   cases hz:(decide (c=zro)&&decide (1 < cs.length+1)) with
   | true=>rw[if_pos rfl];rfl
   | false =>
    rw[if_neg (by decide)];rw[hz]at hnu;rw[vD (p:=λ i4=>!((!ltT i4 (tx "0"))&&(!ltT (tx "9") i4))) (r:=()) λ x _=>rfl,vY ⟨c::cs⟩ (λ c=>digB c.val) _ anb]
    dsimp only
    cases hd:(c::cs).all λ c=>digB c.val with
    | false=>rfl
    | true =>
     rw[hd]at hnu;rw[if_neg (by decide),T.bindL_nx,hnu rfl]
     rfl
theorem acq {w:Tx}(h:w.cs.length<=100000):cJ w=if nmB w=true then .ok w else .er 20 ():=by
 unfold cJ;rw[pP h,T.up_ok,T.ok_bind];unfold nmB
 cases Lw.isN (w.cs.map (·.val))<;>rfl
theorem akZ (c:Fin 1114112):ninTx ⟨[c]⟩ (tx "0123456789")=some (!digB c.val):=by
 show some (!decide (c∈(tx "0123456789").cs))=_
 have:(c∈(tx "0123456789").cs)↔(48<=c.val/\c.val<=57):=by
  have e:(tx "0123456789").cs=[⟨48,by decide⟩,⟨49,by decide⟩,⟨50,by decide⟩,⟨51,by decide⟩,⟨52,by decide⟩,⟨53,by decide⟩,⟨54,by decide⟩,⟨55,by decide⟩,⟨56,by decide⟩,⟨57,by decide⟩]:=by decide
  rw[e]
  simp only[List.mem_cons,List.not_mem_nil,or_false,Fin.ext_iff]
  omega
 unfold digB;rw[decide_eq_decide.mpr this]
theorem aoY {w:Tx}(h:w.cs.length<=100000):dZ w=if nuB w=true then .ok (nuV w) else .er 20 ():=by
 have hnu:nuB w=true->intT w=some (nuV w):=afO
 unfold dZ;rw[qT h,aa,aa,aa];obtain⟨cs⟩:=w
 match cs,h,hnu with
 | [],h,hnu=>rfl
 | c::cs,h,hnu =>
  have hl:(⟨c::cs⟩:Tx).cs.length=cs.length+1:=rfl
  rw[if_neg (by rw[decide_eq_true_eq];omega)]
  by_cases h9:9 < (⟨c::cs⟩:Tx).cs.length
  ·rw[if_pos (decide_eq_true (by omega))];rw[if_neg (by unfold nuB;simp;omega)]
  ·rw[if_neg (by rw[decide_eq_true_eq];omega),aiI (w:=⟨c::cs⟩) rfl h,aa,is0]
   have hb:(if decide (c=zro)=true then(T.ok (decide ((1:Int) < (((⟨c::cs⟩:Tx).cs.length:Nat):Int))):T Unit Bool) else .ok false)=.ok (decide (c=zro)&&decide (1 < cs.length+1)):=by
    by_cases hc:c=zro
    ·rw[if_pos (decide_eq_true hc),decide_eq_true hc,Bool.true_and]
     congr 1
     rw[decide_eq_decide,hl]
     omega
    ·rw[if_neg (by rw[decide_eq_false hc];decide),decide_eq_false hc,Bool.false_and]
   rw[hb,T.ok_bind]
   have hnb:nuB ⟨c::cs⟩=(!(decide (c=zro)&&decide (1 < cs.length+1))&&(c::cs).all λ c=>digB c.val):=by
    unfold nuB
    dsimp only
    rw[decide_eq_true (show 1<=(c::cs).length/\(c::cs).length<=9 from⟨by simp,by have:=h9;simp only[List.length_cons]at this ⊢;omega⟩),Bool.true_and]
    have:decide ((c::cs)[0]?=some zro)=decide (c=zro):=by
     rw[decide_eq_decide]
     simp
    rw[this]
    rfl
   rw[hnb]at hnu ⊢
   cases hz:(decide (c=zro)&&decide (1 < cs.length+1)) with
   | true=>rw[if_pos rfl];rfl
   | false =>
    rw[if_neg (by decide)];rw[hz]at hnu
    rw[nY (g:=λ i6:Tx=>match i6.cs with
     | [c]=>!digB c.val
     | _=>true) (k:=20) λ x hx=>?_,vY ⟨c::cs⟩ (λ c=>digB c.val) _ λ c=>rfl]
    ·dsimp only
     cases hd:(c::cs).all λ c=>digB c.val with
     | false=>rfl
     | true =>
      rw[hd]at hnu;rw[if_neg (by decide),T.ok_bind,hnu rfl]
      rfl
    ·obtain⟨d,_,rfl⟩:=List.mem_map.mp (show x∈(c::cs).map λ c=>(⟨[c]⟩:Tx) from hx);rw[akZ,aa]
end Ty
namespace Ty
open PySem PySem.Spec VS L2 TL
def nI (n:Int):Tx:=tx (toString n)
theorem apm (n:Nat):(nI (n:Int)).s=Str.ofString (toString ((n:Nat):Int)):=amF _
theorem aoZ (n:Nat):(nI (n:Int)).cs.map (·.val)=numL n:=by
 rw[←Tx.s_list,apm];exact tl_num n
theorem anc (n:Nat):(nI (n:Int)).cs.length=(numL n).length:=by rw[←aoZ,List.length_map]
theorem ak0 {n:Int}(h:0<=n/\n<=1000000000):strI n=some (nI n):=by
 refine if_pos ?_
 have h2:n.natAbs < 2 ^ 31:=by omega
 have:=(Nat.log2_lt (n:=n.natAbs) (k:=31))
 by_cases h0:n.natAbs=0
 ·rw[h0]
  decide
 ·have h3:=(this h0).mpr h2
  omega
def spc:Fin 1114112:=⟨32,by decide⟩
def jc (w:Tx)(ws:List Tx):Tx:=⟨w.cs++ws.flatMap λ x=>spc::x.cs⟩
theorem xr (p:List Nat):∀ ps:List (List Nat),joinL [32] (p::ps)=p++ps.flatMap λ x=>32::x
 | []=>by simp[joinL]
 | q::r=>by
  show p++([32]++joinL [32] (q::r))=_;rw[xr q r,List.flatMap_cons]
  try rfl
theorem apn (w:Tx)(ws:List Tx):(jc w ws).s=Txt.join (tx " ").s ((w::ws).map Tx.s):=by
 refine ext_tl ?_;rw[join_eq,tl_join]
 have hsp:tl (tx " ").s=[32]:=by decide
 have hm:((w::ws).map Tx.s).map tl=(w.cs.map (·.val))::ws.map λ x=>x.cs.map (·.val):=by
  rw[List.map_map];show tl w.s::ws.map _=_;rw[show tl w.s=w.cs.map (·.val) from Tx.s_list w];exact congrArg _ (List.map_congr_left λ x _=>Tx.s_list x)
 rw[hsp,hm,xr];show(jc w ws).s.cps.toList=_;rw[Tx.s_list];unfold jc
 dsimp only
 rw[List.map_append,List.map_flatMap,List.flatMap_map]
 rfl
theorem uh (w:Tx)(ws:List Tx):(jc w ws).cs.length=w.cs.length+(ws.map λ x=>x.cs.length+1).sum:=by
 unfold jc
 dsimp only
 rw[List.length_append,List.length_flatMap]
 congr 2
theorem ah5 {w:Tx}{ws:List Tx}(h:(jc w ws).cs.length<=100000):joinT (tx " ") (w::ws)=some (jc w ws):=by
 have hok:joinOk (tx " ").s ((w::ws).map Tx.s):=by
  refine decide_eq_true ?_
  have key:∀ us:List Tx,(us.map λ x=>x.cs.length+1).sum=((us.map Tx.s).map (·.length)).sum+us.length:=λ us=>by
   induction us with
   | nil=>rfl
   | cons u us ih =>
    rw[List.map_cons,List.sum_cons,ih,List.map_cons,List.map_cons,List.sum_cons,List.length_cons,Tx.s_len]
    omega
  rw[uh,key]at h;rw[List.map_cons,List.map_cons,List.sum_cons,Tx.s_len,List.length_cons,List.length_map,show(tx " ").s.length=1 by decide]
  omega
 unfold joinT;rw[if_pos hok,←apn,Tx.s_ofS]
theorem aiJ (w:Tx)(ws:List Tx)(x:Tx):jc w (ws++[x])=(jc w ws++tx " ")++x:=by
 have e:(tx " ").cs=[spc]:=by decide
 unfold jc;show(⟨_⟩:Tx)=⟨((w.cs++_)++(tx " ").cs)++x.cs⟩;rw[e,List.flatMap_append]
 simp
def strW:Un->Tx
 | .i n=>nI n
 | .t x=>x
 | _=>tx ""
def sgn (b:Bool):Tx:=if b then tx "-" else tx "+"
def sgT (b:Bool):Tx:=if b then tx " -" else tx " +"
def wU:List Un->Bool->List Tx
 | [],_=>[]
 | .l xs::r,b=>sgn b::(xs++wU r true)
 | .i n::r,b=>nI n::wU r b
 | .t x::r,b=>x::wU r b
 | .o::r,b=>tx ""::wU r b
theorem yR {x y:Tx}(h:x.cs.length+y.cs.length<=1000000):catS x y=some (x++y):=if_pos (by rw[sizeLine_eq];omega)
theorem ah6 (w:Tx)(a b:List Tx):(jc w a).cs.length<=(jc w (a++b)).cs.length:=by
 rw[uh,uh,List.map_append,List.sum_append]
 omega
theorem afQ {w x:Tx}{acc:List Tx}(h:(jc w (acc++[x])).cs.length<=100000):((T.ofO (catS (jc w acc) (tx " "))).bind λ z=>(T.ofO (catS z x)):T Empty Tx)=.ok (jc w (acc++[x])):=by
 have e:=aiJ w acc x
 have hl:(jc w (acc++[x])).cs.length=(jc w acc).cs.length+1+x.cs.length:=by
  rw[uh,uh,List.map_append,List.sum_append];show _+(_+(x.cs.length+1+0))=_
  omega
 have h1:(tx " ").cs.length=1:=by decide
 have h2:(jc w acc++tx " ").cs.length=(jc w acc).cs.length+1:=by rw[Tx.app_cs,List.length_append,h1]
 rw[yR (by omega),aa,yR (by omega),←e]
 rfl
theorem ak1 {w:Tx}{acc:List Tx}{b:Bool}(h:(jc w (acc++[sgn b])).cs.length<=100000):catS (jc w acc) (sgT b)=some (jc w (acc++[sgn b])):=by
 have hl:(jc w (acc++[sgn b])).cs.length=(jc w acc).cs.length+1+(sgn b).cs.length:=by
  rw[uh,uh,List.map_append,List.sum_append];show _+(_+((sgn b).cs.length+1+0))=_
  omega
 have h1:(sgT b).cs=spc::(sgn b).cs:=by cases b<;>decide
 have h3:(sgT b).cs.length=(sgn b).cs.length+1:=by rw[h1,List.length_cons]
 rw[yR (by omega),aiJ]
 have hsp:(tx " ").cs=[spc]:=by decide
 refine congrArg some ?_;show(⟨(jc w acc).cs++(sgT b).cs⟩:Tx)=⟨((jc w acc).cs++(tx " ").cs)++(sgn b).cs⟩;rw[h1,hsp,List.append_assoc]
 rfl
theorem xG (w:Tx):∀ (xs acc:List Tx),(jc w (acc++xs)).cs.length<=100000->(T.forM xs (jc w acc) (λ(i11:Tx) text13=>(((T.ofO (catS text13 (tx " "))).bind λ x14 =>
 (T.ofO (catS x14 i11)).bind λ x15 =>
 .ok x15):T Empty (Tx))):T Empty Tx)=.ok (jc w (acc++xs))
 | [],acc,_=>by rw[forM_nil,List.append_nil]
 | x::xs,acc,h=>by
  have e:acc++x::xs=(acc++[x])++xs:=by simp
  rw[e]at h ⊢
  have h2:=Nat.le_trans (ah6 w (acc++[x]) xs) h
  have hs:=afQ h2
  rw[lD]
  have hb:(((T.ofO (catS (jc w acc) (tx " "))).bind λ x14=>(T.ofO (catS x14 x)).bind λ x15=>.ok x15):T Empty Tx)=.ok (jc w (acc++[x])):=by
   rw[←hs]
   cases catS (jc w acc) (tx " ") with
   | none=>rfl
   | some z=>cases hz:catS z x<;>simp[T.ofO,T.bind,hz]
  rw[hb];exact xG w xs (acc++[x]) h
def shB:Un->Tx×Tx->T Empty (Tx×Tx):=(λ(i4:Un) (v:Tx×Tx)=>((if(Un.isL i4)=true then((T.ofO (catS v.1 v.2)).bind λ x9 =>
 (T.ofO (Un.toL i4)).bind λ u10 =>
 (T.forM u10 (x9:Tx) (λ(i11:Tx) text13=>(((T.ofO (catS text13 (tx " "))).bind λ x14 =>
 (T.ofO (catS x14 i11)).bind λ x15 =>
 .ok x15):T Empty (Tx)))).bind λ text13 =>
 .ok (text13,(tx " -"))) else((T.ofO (catS v.1 (tx " "))).bind λ x16 =>
 (T.ofO (strU i4)).bind λ x17 =>
 (T.ofO (catS x16 x17)).bind λ x18 =>
 .ok (x18,v.2))):T Empty (Tx×Tx)))
theorem tR (w:Tx):∀ (us:List Un) (acc:List Tx) (b:Bool),(∀ u∈us,u.isL=true∨strU u=some (strW u))->(jc w (acc++wU us b)).cs.length<=100000->∃ b',(T.forM us (jc w acc,sgT b) shB:T Empty (Tx×Tx))=.ok (jc w (acc++wU us b),sgT b')
 | [],acc,b,_,_=>⟨b,by rw[forM_nil];show _=T.ok (jc w (acc++[]),_);rw[List.append_nil]⟩
 | u::us,acc,b,hu,h=>by
  have atom:∀ x:Tx,Un.isL u=false->strU u=some x->wU (u::us) b=x::wU us b->∃ b',(T.forM (u::us) (jc w acc,sgT b) shB:T Empty (Tx×Tx))=.ok (jc w (acc++wU (u::us) b),sgT b'):=λ x hL hx hw=>by
   rw[hw]at h
   have e:acc++x::wU us b=(acc++[x])++wU us b:=by simp
   rw[e]at h
   have h2:=Nat.le_trans (ah6 w (acc++[x]) (wU us b)) h
   have hs:=afQ h2
   obtain⟨b',ih⟩:=tR w us (acc++[x]) b (λ v hv=>hu v (List.mem_cons_of_mem _ hv)) h;refine⟨b',?_⟩;rw[lD];unfold shB
   dsimp only
   rw[if_neg (by rw[hL];decide),hx]
   have hb:(((T.ofO (catS (jc w acc) (tx " "))).bind λ x16=>(T.ofO (some x)).bind λ x17=>(T.ofO (catS x16 x17)).bind λ x18=>.ok (x18,sgT b)):T Empty (Tx×Tx))=.ok (jc w (acc++[x]),sgT b):=by
    cases hc:catS (jc w acc) (tx " ") with
    | none=>rw[hc]at hs;cases hs
    | some z =>
     rw[hc]at hs
     change (T.ofO (catS z x):T Empty Tx)=_ at hs
     show(T.ofO (catS z x)).bind _=_;rw[hs]
     rfl
   rw[hb,T.ok_bind,hw,e];exact ih
  cases u with
  | i n =>
   rcases hu (.i n) List.mem_cons_self with q | q
   ·cases q
   ·exact atom (nI n) rfl q rfl
  | t x=>exact atom x rfl rfl rfl
  | o =>
   rcases hu .o List.mem_cons_self with q | q<;>cases q
  | l xs =>
   have hw:wU (.l xs::us) b=sgn b::(xs++wU us true):=rfl
   rw[hw]at h ⊢
   have e:acc++sgn b::(xs++wU us true)=((acc++[sgn b])++xs)++wU us true:=by simp
   rw[e]at h ⊢
   have h2:=Nat.le_trans (ah6 w ((acc++[sgn b])++xs) (wU us true)) h
   have h3:=Nat.le_trans (ah6 w (acc++[sgn b]) xs) h2
   obtain⟨b',ih⟩:=tR w us ((acc++[sgn b])++xs) true (λ v hv=>hu v (List.mem_cons_of_mem _ hv)) h;refine⟨b',?_⟩;rw[lD];unfold shB
   dsimp only
   rw[if_pos (show Un.isL (.l xs)=true from rfl),ak1 h3,aa,show Un.toL (.l xs)=some xs from rfl,aa,xG w xs _ h2,T.ok_bind,T.ok_bind];exact ih
def numOk (n:Int):Prop:=0<=n/\n < 1000000000
def w0:Wd->Tx
 | .come _ _ _=>tx "come"
 | .rise _ _ _=>tx "rise"
 | .die _ _ _=>tx "die"
 | .penance _=>tx "penance"
 | .bring _ _=>tx "bring"
 | .give _ _ _ _=>tx "give"
 | .pay _ _ _ _=>tx "pay"
 | .claim _ _ _ _ _ _=>tx "claim"
 | .wergild _ _ _ _ _ _ _=>tx "wergild"
 | .accuse _ _ _ _ _ _=>tx "accuse"
theorem ak2 {n:Int}(h:numOk n):(nI n).cs.length<=12:=by
 obtain⟨k,rfl⟩:=Int.eq_ofNat_of_zero_le h.1
 have:=h.2
 have h9:(numL k).length<=9:=numL_len (by decide) (by omega)
 rw[anc]
 omega
theorem ak3 {n:Int}(h:numOk n):strU (.i n)=some (strW (.i n)):=ak0 ⟨h.1,by have:=h.2;omega⟩
theorem yS:∀ (l acc:List Nat),∃ p ps,spl [32] 0 acc l=p::ps/\(p++ps.flatMap λ x=>32::x)=acc++l
 | [],acc=>⟨acc,[],spl_nil _ _ _,by simp⟩
 | c::r,acc=>by
  by_cases h:c=32
  ·subst h
   obtain⟨p,ps,e1,e2⟩:=yS r [];exact⟨acc,p::ps,by rw[spl_hit (by simp[pre])];exact congrArg _ e1,by rw[List.flatMap_cons,List.cons_append,e2];simp⟩
  ·obtain⟨p,ps,e1,e2⟩:=yS r (acc++[c]);exact⟨p,ps,by rw[spl_miss (pre_of_head [] r h)];exact e1,by rw[e2];simp⟩
theorem ao0 (w:Tx)(ws:List Tx):tl (jc w ws).s=tl w.s++(ws.map λ y=>tl y.s).flatMap λ l=>32::l:=by
 show(jc w ws).s.cps.toList=w.s.cps.toList++_;rw[Tx.s_list,Tx.s_list];unfold jc
 dsimp only
 rw[List.map_append,List.map_flatMap,List.flatMap_map];refine congrArg (λ f=>w.cs.map (·.val)++List.flatMap f ws) ?_
 funext y
 show spc.val::y.cs.map _=32::y.s.cps.toList;rw[Tx.s_list]
 rfl
theorem acr {x:Tx}(h:x.cs.length<=100000):∃ w ws,splitT x (tx " ")=some (w::ws)/\jc w ws=x:=by
 obtain⟨p,ps,e1,e2⟩:=yS (tl x.s) [];rw[List.nil_append]at e2
 have hs:(Txt.split x.s (tx " ").s).map tl=p::ps:=by
  rw[split_spl _ _ (by decide) (TL.kind_ok (abk (by decide))),show tl (tx " ").s=[32] by decide];exact e1
 have hfin:∀ c∈tl x.s,c < 1114112:=λ c hc=>x.fine c hc
 rw[←e2]at hfin
 cases hsp:Txt.split x.s (tx " ").s with
 | nil=>rw[hsp]at hs;cases hs
 | cons a as =>
  rw[hsp,List.map_cons]at hs
  injection hs with h1 h2
  have fa:fineS a:=λ c hc=>hfin c (List.mem_append_left _ (by rw[←h1];exact hc))
  have fas:∀ b∈as,fineS b:=λ b hb c hc=>hfin c (List.mem_append_right _ (List.mem_flatMap.mpr ⟨tl b,by rw[←h2];exact List.mem_map_of_mem hb,List.mem_cons_of_mem _ hc⟩))
  refine⟨Tx.ofS a,as.map Tx.ofS,?_,?_⟩
  ·unfold splitT;rw[if_pos ⟨by decide,by rw[Tx.s_len,sizeLine_eq];omega⟩,hsp]
   rfl
  ·refine Tx.s_inj (ext_tl ?_);rw[ao0,Tx.ofS_s fa,h1,List.map_map]
   have:as.map ((λ y:Tx=>tl y.s)∘Tx.ofS)=ps:=by
    rw[←h2];refine List.map_congr_left λ b hb=>?_;show tl (Tx.ofS b).s=tl b;rw[Tx.ofS_s (fas b hb)]
   rw[this,e2]
def tot (ws:List Tx):Nat:=(ws.map λ x=>x.cs.length+1).sum
theorem kZ (w:Tx)(ws:List Tx):tot (w::ws)=w.cs.length+1+tot ws:=rfl
theorem qU (a b:List Tx):tot (a++b)=tot a+tot b:=by
 unfold tot;rw[List.map_append,List.sum_append]
theorem acs (w:Tx)(ws:List Tx):tot (w::ws)=(jc w ws).cs.length+1:=by
 rw[uh,kZ];unfold tot
 omega
theorem abt:∀ {ws:List Tx} {y:Tx},y∈ws->y.cs.length+1<=tot ws
 | w::ws,y,h=>by
  rw[kZ];rcases List.mem_cons.mp h with rfl | h
  ·omega
  ·have:=abt h
   omega
theorem abu:∀ ws:List Tx,ws.length<=tot ws
 | []=>Nat.le_refl _
 | w::ws=>by
  have:=abu ws
  rw[kZ,List.length_cons]
  omega
theorem afR (ws:List Tx)(k:Nat):tot (ws.take k)+tot (ws.drop k)=tot ws:=by rw[←qU,List.take_append_drop]
theorem af0 {w:Tx}{s:String}(h:w≠tx s):(w.s == Str.ofString s)=false:=beq_false_of_ne λ q=>h (Tx.s_inj (q.trans (amF s).symm))
theorem qu {w:Tx}{s:String}(h:w≠tx s):decide (tx s=w)=false:=decide_eq_false λ q=>h q.symm
theorem aiK (x:Tx):Txt.replace x.s "+" ""=(⟨x.cs.filter λ c=>c.val != 43⟩:Tx).s:=by
 refine ext_tl ?_;show _=(⟨x.cs.filter λ c=>c.val != 43⟩:Tx).s.cps.toList;rw[Tx.s_list]
 have e1:Str.ofString "+"=⟨#[43]⟩:=by decide
 have e2:Str.ofString ""=⟨#[]⟩:=by decide
 rw[e1,e2];refine(PyProof.Rows.replace_strikes x.s 43).trans ?_;rw[Tx.s_list,List.filter_map]
 rfl
theorem qw (x:Tx):replT "+" "" x=⟨x.cs.filter λ c=>c.val != 43⟩:=by
 unfold replT;rw[aiK,Tx.s_ofS]
theorem jT {x:Tx}(h:x.cs.length<=1000):replOk "+" "" x:=by
 refine⟨?_,?_⟩
 ·rw[aiK,Tx.s_ofS]
 ·rw[Tx.s_len,show(Str.ofString "").length=0 by decide]
  omega
def fm2 (fm:Tx)(c:Bool):Tx:=if c=true then fm++tx "+" else fm
theorem ane (w:Tx):(List.lookup w.s ([("come","abb"),("rise","abb"),("die","aba"),("penance","a"),("bring","ab"),("give","baab"),("pay","aabb"),("claim","abbb"),("wergild","aabbb"),("accuse","babb")]:List (Str×Str))=none/\jB w=.ok none)∨∃ (fm:Tx) (c:Bool),(List.lookup w.s ([("come","abb"),("rise","abb"),("die","aba"),("penance","a"),("bring","ab"),("give","baab"),("pay","aabb"),("claim","abbb"),("wergild","aabbb"),("accuse","babb")]:List (Str×Str))).isSome=true/\tabT ([("come","abb"),("rise","abb"),("die","aba"),("penance","a"),("bring","ab"),("give","baab"),("pay","aabb"),("claim","abbb"),("wergild","aabbb"),("accuse","babb")]:List (Str×Str)) w=some fm/\memT w (Kt.mk ["claim","wergild","accuse"]).ts=c/\jB w=.ok (some (fm2 fm c))/\fm.cs.length<=5/\replOk "+" "" (fm2 fm c)/\replT "+" "" (fm2 fm c)=fm/\decide (fm=fm2 fm c)=!c:=by
 by_cases h0:w=tx "come"
 ·subst h0
  exact .inr ⟨tx "abb",false,by decide,by decide,by decide,congrArg T.ok (by decide),by decide,jT (by decide),(qw _).trans (by decide),by decide⟩
 by_cases h1:w=tx "rise"
 ·subst h1
  exact .inr ⟨tx "abb",false,by decide,by decide,by decide,congrArg T.ok (by decide),by decide,jT (by decide),(qw _).trans (by decide),by decide⟩
 by_cases h2:w=tx "die"
 ·subst h2
  exact .inr ⟨tx "aba",false,by decide,by decide,by decide,congrArg T.ok (by decide),by decide,jT (by decide),(qw _).trans (by decide),by decide⟩
 by_cases h3:w=tx "penance"
 ·subst h3
  exact .inr ⟨tx "a",false,by decide,by decide,by decide,congrArg T.ok (by decide),by decide,jT (by decide),(qw _).trans (by decide),by decide⟩
 by_cases h4:w=tx "bring"
 ·subst h4
  exact .inr ⟨tx "ab",false,by decide,by decide,by decide,congrArg T.ok (by decide),by decide,jT (by decide),(qw _).trans (by decide),by decide⟩
 by_cases h5:w=tx "give"
 ·subst h5
  exact .inr ⟨tx "baab",false,by decide,by decide,by decide,congrArg T.ok (by decide),by decide,jT (by decide),(qw _).trans (by decide),by decide⟩
 by_cases h6:w=tx "pay"
 ·subst h6
  exact .inr ⟨tx "aabb",false,by decide,by decide,by decide,congrArg T.ok (by decide),by decide,jT (by decide),(qw _).trans (by decide),by decide⟩
 by_cases h7:w=tx "claim"
 ·subst h7
  exact .inr ⟨tx "abbb",true,by decide,by decide,by decide,congrArg T.ok (by decide),by decide,jT (by decide),(qw _).trans (by decide),by decide⟩
 by_cases h8:w=tx "wergild"
 ·subst h8
  exact .inr ⟨tx "aabbb",true,by decide,by decide,by decide,congrArg T.ok (by decide),by decide,jT (by decide),(qw _).trans (by decide),by decide⟩
 by_cases h9:w=tx "accuse"
 ·subst h9
  exact .inr ⟨tx "babb",true,by decide,by decide,by decide,congrArg T.ok (by decide),by decide,jT (by decide),(qw _).trans (by decide),by decide⟩
 left
 constructor
 ·simp only[List.lookup,show(w.s == ("come":Str))=false from af0 h0,show(w.s == ("rise":Str))=false from af0 h1,show(w.s == ("die":Str))=false from af0 h2,show(w.s == ("penance":Str))=false from af0 h3,show(w.s == ("bring":Str))=false from af0 h4,show(w.s == ("give":Str))=false from af0 h5,show(w.s == ("pay":Str))=false from af0 h6,show(w.s == ("claim":Str))=false from af0 h7,show(w.s == ("wergild":Str))=false from af0 h8,show(w.s == ("accuse":Str))=false from af0 h9]
 ·unfold jB dget
  simp only[List.find?,qu h0,qu h1,qu h2,qu h3,qu h4,qu h5,qu h6,qu h7,qu h8,qu h9,Option.map_none,Option.none_or,Option.or_none]
def lU (p:Tx×Tx):Un:=if p.2=tx "a" then(if nmB p.1=true then .t p.1 else .o) else if nuB p.1=true then .i (nuV p.1) else .o
theorem xH {u:Un}{l:List Un}{α:Type}{a b:α}(h:Un.o≠u):(if Un.o∈u::l then a else b)=if Un.o∈l then a else b:=by
 by_cases hl:Un.o∈l
 ·rw[if_pos hl,if_pos (List.mem_cons_of_mem _ hl)]
 ·rw[if_neg hl,if_neg (λ q=>(List.mem_cons.mp q).elim h hl)]
theorem apb:∀ (ps:List (Tx×Tx)) (acc:List Un),(∀ p∈ps,p.1.cs.length<=100000)->acc.length+ps.length<=1000->(T.forM ps acc (λ(i2:(Tx×Tx)) parts4=>((if(decide (i2.2=(tx "a")))=true then((cJ i2.1).bind λ r5 =>
 T.gd (parts4.length < sizeLine) <|
 .ok (parts4++[(Un.t r5)])) else((dZ i2.1).bind λ r6 =>
 T.gd (parts4.length < sizeLine) <|
 .ok (parts4++[(Un.i r6)]))):T Unit ((List Un)))):T Unit (List Un))=if Un.o∈ps.map lU then .er 20 () else .ok (acc++ps.map lU)
 | [],acc,_,_=>by
  rw[if_neg (by simp),List.map_nil,List.append_nil]
  rfl
 | p::ps,acc,hb,hl=>by
  have hp:=hb p List.mem_cons_self
  rw[List.length_cons]at hl
  have ih:=λ u=>apb ps (acc++[u]) (λ q hq=>hb q (List.mem_cons_of_mem _ hq)) (by rw[List.length_append,List.length_singleton];omega)
  rw[lD,List.map_cons]
  by_cases ha:p.2=tx "a"
  ·rw[if_pos (decide_eq_true ha),acq hp]
   by_cases hn:nmB p.1=true
   ·have hu:lU p=.t p.1:=by unfold lU;rw[if_pos ha,if_pos hn]
    rw[if_pos hn,T.ok_bind,T.gd_of (by rw[sizeLine_eq];omega),T.ok_bind,ih,List.append_assoc,hu,xH (by intro q;cases q)]
    rfl
   ·have hu:lU p=.o:=by unfold lU;rw[if_pos ha,if_neg hn]
    rw[if_neg hn,hu,if_pos List.mem_cons_self]
    rfl
  ·rw[if_neg (by rw[decide_eq_true_eq];exact ha),aoY hp]
   by_cases hn:nuB p.1=true
   ·have hu:lU p=.i (nuV p.1):=by unfold lU;rw[if_neg ha,if_pos hn]
    rw[if_pos hn,T.ok_bind,T.gd_of (by rw[sizeLine_eq];omega),T.ok_bind,ih,List.append_assoc,hu,xH (by intro q;cases q)]
    rfl
   ·have hu:lU p=.o:=by unfold lU;rw[if_neg ha,if_neg hn]
    rw[if_neg hn,hu,if_pos List.mem_cons_self]
    rfl
theorem apo {s w:Tx}(h:w.cs.length<=100000):dR s w=.ok (Enc.enc (lU (w,s)):D):=by
 unfold dR lU
 dsimp only
 by_cases ha:s=tx "a"
 ·rw[if_pos (decide_eq_true ha),if_pos ha,xq h]
  by_cases hn:nmB w=true
  ·rw[if_pos hn,if_pos hn]
   rfl
  ·rw[if_neg hn,if_neg hn]
   rfl
 ·rw[if_neg (by rw[decide_eq_true_eq];exact ha),if_neg ha,afP h]
  by_cases hn:nuB w=true
  ·rw[if_pos hn,if_pos hn]
   rfl
  ·rw[if_neg hn,if_neg hn]
   rfl
theorem zsw:∀ (fs ws:List Tx),(List.zip fs ws).map (λ p=>lU (p.2,p.1))=(List.zip ws fs).map lU
 | [],ws=>by cases ws<;>rfl
 | f::fs,[]=>rfl
 | f::fs,w::ws=>by
  rw[List.zip_cons_cons,List.zip_cons_cons,List.map_cons,List.map_cons,zsw fs ws]
theorem ztk:∀ (fs ws:List Tx),List.zip (ws.take fs.length) fs=List.zip ws fs
 | [],ws=>by cases ws<;>rfl
 | f::fs,[]=>rfl
 | f::fs,w::ws=>by
  rw[List.length_cons,List.take_succ_cons,List.zip_cons_cons,List.zip_cons_cons,ztk fs ws]
theorem xJ (x:Tx):(signsT x).length=x.cs.length:=by unfold signsT;rw[List.length_map]
theorem apc {ws:List Tx}{fm:Tx}(hf:fm.cs.length<=5)(hb:∀ w∈ws,w.cs.length<=100000):fP ws fm=if ws.length=fm.cs.length/\Un.o∉(List.zip ws (signsT fm)).map lU then .ok ((List.zip ws (signsT fm)).map lU) else .er 20 ():=by
 have hz:(List.zip ws (signsT fm)).length<=5:=by rw[List.length_zip,xJ];omega
 unfold fP;rw[qT (by omega),aa]
 by_cases hl:ws.length=fm.cs.length
 ·rw[if_neg (by rw[decide_eq_true (by rw[hl])];decide),apb _ [] (λ p hp=>hb _ (List.of_mem_zip hp).1) (by simp;omega)]
  by_cases ho:Un.o∈(List.zip ws (signsT fm)).map lU
  ·rw[if_pos ho,if_neg (λ q=>q.2 ho)]
   rfl
  ·rw[if_neg ho,if_pos ⟨hl,ho⟩,T.ok_bind,List.nil_append]
 ·rw[if_pos (by rw[decide_eq_false (by omega)];rfl),if_neg (λ q=>hl q.1)]
theorem apq {ε:Type}{fs ws:List Tx}(hf:fs.length<=10)(hb:∀ w∈ws,w.cs.length<=100000):(T.lcs (List.zip fs ws) (λ(i7:(Tx×Tx))=>(((dR i7.1 i7.2).bind λ r9 =>
 .ok (some r9)):T Empty (Option D))):T ε (List D))=.ok (((List.zip ws fs).map lU).map Enc.enc):=by
 rw[ab7 (g:=λ p=>some (Enc.enc (lU (p.2,p.1)):D)) (by rw[List.length_zip];omega) λ p hp=>by rw[apo (hb _ (List.of_mem_zip hp).2),T.ok_bind],←zsw,List.map_map];rw[show(λ p:Tx×Tx=>some (Enc.enc (lU (p.2,p.1)):D))=some∘(λ p:Tx×Tx=>(Enc.enc (lU (p.2,p.1)):D)) from rfl,List.filterMap_eq_map]
 rfl
theorem afS (us:List Un):inND (us.map Enc.enc)=some (decide (Un.o∈us)):=by
 have ho:inOk (.none:D) (us.map Enc.enc):=.inr ⟨amZ (α:=Un) (by decide) Un.o,aiA (by decide) us⟩
 unfold inND;rw[if_pos ho];exact congrArg some (afr Un.o us)
theorem afT (l:List D):encs l=l:=by
 show l.map (λ d:D=>d)=l;exact List.map_id' l
theorem yU {α:Type}{c:Prop}[Decidable c]{a b b':α}(h:b=b'):(if c then a else b)=if c then a else b':=by rw[h]
theorem afU {α:Type}{xs:List α}{a b:Nat}(ha:a<=b)(hb:b<=xs.length):cutT xs (some (a:Int)) (some (b:Int))=(xs.drop a).take (b - a):=by
 have h1:HT.sIx xs.length 0 (some (a:Int))=a:=by
  unfold HT.sIx
  simp only[]
  rw[if_neg (by omega),Int.toNat_natCast]
  omega
 have h2:HT.sIx xs.length xs.length (some (b:Int))=b:=by
  unfold HT.sIx
  simp only[]
  rw[if_neg (by omega),Int.toNat_natCast]
  omega
 unfold cutT;rw[h1,h2]
theorem first_at {k:Tx}:∀ {ws:List Tx},k∈ws->∃ a b,ws=a++k::b/\k∉a
 | w::ws,h=>by
  by_cases e:w=k
  ·subst e
   exact⟨[],ws,rfl,by simp⟩
  ·rcases List.mem_cons.mp h with h | h
   ·exact absurd h.symm e
   ·obtain⟨a,b,e1,e2⟩:=first_at h
    exact⟨w::a,b,by rw[e1];rfl,λ q=>by
     rcases List.mem_cons.mp q with q | q
     ·exact e q.symm
     ·exact e2 q⟩
theorem aar {p:Tx->Bool}:∀ {ws:List Tx},ws.all p=false->∃ a x b,ws=a++x::b/\(∀ y∈a,p y=true)/\p x=false
 | [],h=>by cases h
 | w::ws,h=>by
  cases hp:p w with
  | false=>exact⟨[],w,ws,rfl,(by intro y hy;cases hy),hp⟩
  | true =>
   rw[List.all_cons,hp,Bool.true_and]at h;obtain⟨a,x,b,e1,e2,e3⟩:=aar h
   exact⟨w::a,x,b,by rw[e1];rfl,λ y hy=>by
    rcases List.mem_cons.mp hy with rfl | hy
    ·exact hp
    ·exact e2 y hy,e3⟩
theorem aiL {xs:List Tx}(hl:xs.length<=1000000)(hb:∀ w∈xs,w.cs.length<=100000):(T.lcsR xs (λ(i3:Tx)=>(((cJ i3).bind λ r5 =>
 .ok (some r5)):T Unit (Option Tx))):T Unit (List Tx))=if xs.all nmB=true then .ok xs else .er 20 ():=by
 cases h:xs.all nmB with
 | true =>
  rw[if_pos rfl,akX (g:=λ u=>u) hl λ u hu=>by rw[acq (hb u hu),if_pos (List.all_eq_true.mp h u hu),T.ok_bind],List.map_id']
 | false =>
  obtain⟨a,x,b,rfl,h1,h2⟩:=aar h
  rw[if_neg (by decide),akY (g:=λ u=>u) (by rw[List.length_append]at hl;omega) (λ u hu=>by rw[acq (hb u (List.mem_append_left _ hu)),if_pos (h1 u hu),T.ok_bind]) (by
   rw[acq (hb x (by simp)),if_neg (by rw[h2];decide)]
   rfl)]
theorem aiM {ε:Type}{xs:List Tx}(hl:xs.length<=1000000)(hb:∀ w∈xs,w.cs.length<=100000):(T.lcs xs (λ(i3:Tx)=>(((cU i3).bind λ r5 =>
 .ok (some r5)):T Empty (Option (Option Tx)))):T ε (List (Option Tx)))=.ok (xs.map λ w=>if nmB w=true then some w else none):=by
 rw[ab7 (g:=λ w=>some (if nmB w=true then some w else none)) hl λ u hu=>by rw[xq (hb u hu),T.ok_bind]];rw[show(λ w:Tx=>some (if nmB w=true then some w else none))=some∘(λ w:Tx=>(if nmB w=true then some w else none)) from rfl,List.filterMap_eq_map]
theorem aiN (xs:List Tx):memT (none:Option Tx) (xs.map λ w=>if nmB w=true then some w else none)=!xs.all nmB:=by
 unfold memT
 induction xs with
 | nil=>rfl
 | cons x xs ih =>
  rw[List.map_cons,List.all_cons,Bool.not_and,←ih]
  cases hx:nmB x<;>simp
theorem acu {xs:List Tx}(h:xs.all nmB=true):(xs.map λ w=>if nmB w=true then some w else none)=xs.map some :=
 List.map_congr_left λ w hw=>if_pos (List.all_eq_true.mp h w hw)
theorem ak4 {ws:List Tx}(hl:ws.length<=100001)(hb:∀ w∈ws,w.cs.length<=100000):(bG ws=.er 20 ()/\bu ws=.ok none)∨∃ a b,bG ws=.ok [a,b]/\bu ws=.ok (some [a.map some,b.map some])/\a.length+b.length<=ws.length:=by
 by_cases h2:ws.length < 2
 ·left
  constructor
  ·unfold bG;rw[if_pos (decide_eq_true (by omega))]
  ·unfold bu;rw[if_pos (decide_eq_true (by omega))]
 have h2n:¬ decide ((ws.length:Int) < 2)=true:=by rw[decide_eq_true_eq];omega
 obtain⟨x,r,rfl⟩:∃ x r,ws=x::r:=by
  cases ws with
  | nil=>exact absurd (show(0:Nat) < 2 by decide) h2
  | cons x r=>exact⟨x,r,rfl⟩
 have a0:atI (x::r) (0:Int)=some x:=at0 _ _
 by_cases hx:x=tx "+"
 case neg =>
  have hx2:(!decide (x=tx "+"))=true:=by rw[decide_eq_false hx];rfl
  left
  constructor
  ·unfold bG;rw[if_neg h2n,a0,aa,if_pos hx2]
  ·unfold bu;rw[if_neg h2n,a0,aa,if_pos hx2]
 subst hx
 have hx2:¬ (!decide (tx "+"=tx "+"))=true:=by simp
 have hpm:tx "+"≠tx "-":=by decide
 by_cases hm:tx "-"∈(tx "+"::r)
 case neg =>
  have hc:cntT (tx "+"::r) (tx "-")=0:=by
   unfold cntT;rw[List.filter_eq_nil_iff.mpr λ y hy=>by rw[decide_eq_true_eq];rintro rfl;exact hm hy]
   rfl
  have hmt:memT (tx "-") (tx "+"::r)=false:=decide_eq_false hm
  left
  constructor
  ·unfold bG;rw[if_neg h2n,a0,aa,if_neg hx2,hc,if_pos (by decide)]
  ·unfold bu;rw[if_neg h2n,a0,aa,if_neg hx2,hmt,if_pos (by decide)]
 have hmt:memT (tx "-") (tx "+"::r)=true:=decide_eq_true hm
 have hm2:tx "-"∈r:=by
  rcases List.mem_cons.mp hm with h | h
  ·exact absurd h.symm hpm
  ·exact h
 obtain⟨a,b,rfl,hna⟩:=first_at hm2
 have hlen:(tx "+"::(a++tx "-"::b)).length=a.length+b.length+2:=by
  rw[List.length_cons,List.length_append,List.length_cons]
  omega
 have no1:∀ x∈a,decide (x=tx "-")=false:=λ x hx=>decide_eq_false (by rintro rfl;exact hna hx)
 have hpd:decide (tx "+"=tx "-")=false:=by decide
 have hcnt:cntT (tx "+"::(a++tx "-"::b)) (tx "-")=((1+(b.filter λ x=>decide (x=tx "-")).length:Nat):Int):=by
  unfold cntT;rw[List.filter_cons_of_neg (by rw[hpd];decide),List.filter_append,List.filter_cons_of_pos (by simp),List.filter_eq_nil_iff.mpr λ x hx=>by rw[no1 x hx];decide];rw[List.nil_append,List.length_cons]
  omega
 have hidx:idxT (tx "+"::(a++tx "-"::b)) (tx "-")=some (((a.length+1:Nat):Int)):=by
  unfold idxT
  have:(tx "+"::(a++tx "-"::b)).findIdx? (λ y=>decide (y=tx "-"))=some (a.length+1):=by
   rw[List.findIdx?_cons,hpd,List.findIdx?_append,List.findIdx?_eq_none_iff.mpr λ x hx=>no1 x hx,List.findIdx?_cons]
   simp
  rw[this]
  rfl
 have c1:cutT (tx "+"::(a++tx "-"::b)) (some (1:Int)) (some (((a.length+1:Nat):Int)))=a:=by
  rw[show(1:Int)=((1:Nat):Int) from rfl,afU (by omega) (by omega),List.drop_one,List.tail_cons,Nat.add_sub_cancel];exact List.take_left' rfl
 have c2:cutT (tx "+"::(a++tx "-"::b)) (some ((((a.length+1:Nat):Int))+1)) none=b:=by
  rw[kJ (by omega),show((((a.length+1:Nat):Int))+1).toNat=a.length+1+1 by omega];rw[List.drop_succ_cons,show a++tx "-"::b=(a++[tx "-"])++b by simp];exact List.drop_left' (by simp)
 have ba:∀ w∈a,w.cs.length<=100000:=λ w hw=>hb w (by simp[hw])
 have bb:∀ w∈b,w.cs.length<=100000:=λ w hw=>hb w (by simp[hw])
 have hla:a.length<=1000000:=by omega
 have hlb:b.length<=1000000:=by omega
 have law:bu (tx "+"::(a++tx "-"::b))=if((!a.all nmB)||(!b.all nmB))=true then .ok none else .ok (some [a.map λ w=>if nmB w=true then some w else none,b.map λ w=>if nmB w=true then some w else none]):=by
  unfold bu;rw[if_neg h2n,a0,aa,if_neg hx2,hmt,if_neg (show ¬ (!true)=true by decide),hidx,aa,c1,c2,aiM hla ba,T.ok_bind,aiM hlb bb,T.ok_bind,aiN,aiN]
 have prog:bG (tx "+"::(a++tx "-"::b))=if(!(decide (((1+(b.filter λ x=>decide (x=tx "-")).length:Nat):Int)=(1:Int))))=true then .er 20 () else((if a.all nmB=true then .ok a else .er 20 ():T Unit (List Tx)).bind λ l4=>(if b.all nmB=true then .ok b else .er 20 ():T Unit (List Tx)).bind λ l7=>.ok [l4,l7]):=by
  unfold bG;rw[if_neg h2n,a0,aa,if_neg hx2,hcnt,hidx,aa,c1,c2,aiL hla ba,aiL hlb bb]
 rw[law,prog]
 cases ha:a.all nmB with
 | false =>
  left
  constructor
  ·split<;>rfl
  ·rfl
 | true =>
  cases hbb:b.all nmB with
  | false =>
   left
   constructor
   ·split<;>rfl
   ·rfl
  | true =>
   have hf:b.filter (λ x=>decide (x=tx "-"))=[]:=List.filter_eq_nil_iff.mpr λ y hy=>by
    rw[decide_eq_true_eq];rintro rfl;exact absurd (List.all_eq_true.mp hbb _ hy) (by decide)
   refine .inr ⟨a,b,?_,?_,by omega⟩
   ·rw[hf]
    rfl
   ·rw[if_neg (by decide),acu ha,acu hbb]
theorem anf {x:Tx}(h:x.cs.length<=100000):(bH x=.er 20 ()/\gQ x=.ok (Enc.enc ():D))∨∃ us:List Un,bH x=.ok (DeedT.mk us)/\gQ x=.ok (Enc.enc (DeedT.mk us):D):=by
 obtain⟨w,ws,e,ej⟩:=acr h
 have ht:=acs w ws
 rw[ej]at ht
 have hlen:=abu (w::ws)
 rw[List.length_cons]at hlen
 have hb:∀ y∈ws,y.cs.length<=100000:=λ y hy=>by
  have:=abt (List.mem_cons_of_mem w hy)
  omega
 have hbd:∀ k,∀ y∈ws.drop k,y.cs.length<=100000:=λ k y hy=>hb y (List.mem_of_mem_drop hy)
 have hbt:∀ k,∀ y∈ws.take k,y.cs.length<=100000:=λ k y hy=>hb y (List.mem_of_mem_take hy)
 have a0:atI (w::ws) (0:Int)=some w:=at0 _ _
 have cf1:cutT (w::ws) (some (1:Int)) none=ws:=by
  rw[kJ (by omega)]
  rfl
 rcases ane w with ⟨f1,f2⟩ | ⟨fm,c,f1,f2,f3,f4,f5,f6,f7,f8⟩
 ·left
  constructor
  ·unfold bH;rw[e,aa,a0,aa,f1,if_pos (by rfl)]
  ·unfold gQ;rw[e,aa,a0,aa,f2,T.ok_bind,if_pos (by rfl)]
 have hz:(List.zip ws (signsT fm)).length<=5:=by rw[List.length_zip,xJ];omega
 have cfn:cutT (w::ws) (some ((1:Int)+((fm.cs.length:Nat):Int))) none=ws.drop fm.cs.length:=by
  rw[kJ (by omega),show((1:Int)+((fm.cs.length:Nat):Int)).toNat=fm.cs.length+1 by omega,List.drop_succ_cons]
 have hcl:((w::ws).length:Int)=(ws.length:Int)+1:=by rw[List.length_cons];omega
 have hct:cutT (w::ws) (some (1:Int)) (some ((1:Int)+((fm.cs.length:Nat):Int)))=ws.take fm.cs.length:=by
  unfold cutT
  have h1:HT.sIx (w::ws).length 0 (some (1:Int))=1:=by
   unfold HT.sIx
   simp
  have h2:HT.sIx (w::ws).length (w::ws).length (some ((1:Int)+((fm.cs.length:Nat):Int)))=min (fm.cs.length+1) (ws.length+1):=by
   unfold HT.sIx
   simp only[]
   rw[if_neg (by omega),List.length_cons]
   omega
  rw[h1,h2,List.drop_one,List.tail_cons]
  by_cases hk:fm.cs.length<=ws.length
  ·rw[Nat.min_eq_left (by omega),Nat.add_sub_cancel]
  ·rw[Nat.min_eq_right (by omega),Nat.add_sub_cancel,List.take_of_length_le (Nat.le_refl _),List.take_of_length_le (by omega)]
 have hL:(T.lcs (List.zip (signsT fm) ws) (λ(i7:(Tx×Tx))=>(((dR i7.1 i7.2).bind λ r9 =>
 .ok (some r9)):T Empty (Option D))):T Empty (List D))=.ok (((List.zip ws (signsT fm)).map lU).map Enc.enc):=apq (by rw[xJ];omega) hb
 have hlf:lenT fm=some ((fm.cs.length:Nat):Int):=qT (by omega)
 have hzl:((List.zip ws (signsT fm)).map lU).length<=5:=by rw[List.length_map];exact hz
 cases c with
 | false =>
  have prog:bH x=(if ws.length=fm.cs.length/\Un.o∉(List.zip ws (signsT fm)).map lU then .ok ((List.zip ws (signsT fm)).map lU) else .er 20 ():T Unit (List Un)).bind λ r7=>(T.ofO (catT [Un.t w] r7)).bind λ x8=>.ok (DeedT.mk x8):=by
   unfold bH;rw[e,aa,a0,aa,f1,if_neg (by decide),aa,f2,aa,aa,f3,if_pos (show(!false)=true from rfl),aa,cf1,apc f5 hb]
  have law:gQ x=if(decide ((ws.length:Int)+1 < 1+(fm.cs.length:Int)))=true then .ok (Enc.enc ():D) else(if((!false)&&decide ((0:Int) < ((ws.length - fm.cs.length:Nat):Int)))=true then .ok (Enc.enc ():D) else(if decide (Un.o∈(List.zip ws (signsT fm)).map lU)=true then .ok (Enc.enc ():D) else .ok (PyData.tuple ((Enc.enc w:D)::((List.zip ws (signsT fm)).map lU).map Enc.enc)))):=by
   unfold gQ;rw[e,aa,a0,aa,f4,T.ok_bind,if_neg (show ¬ (Option.isNone (some (fm2 fm _)))=true from Bool.false_ne_true),aa,T.gd_of f6,f7,hlf,aa,aa,f8,cfn,hcl,List.length_drop];refine yU (yU ?_);rw[cf1,hL,T.ok_bind,if_neg (show ¬ (!(!false))=true by decide),T.bindL_nx,afS,aa,aa,afT,cA (by simp only[encs,List.length_map,List.length_singleton]at hzl ⊢;omega),aa]
   rfl
  rw[prog,law]
  by_cases hm:ws.length=fm.cs.length
  ·rw[if_neg (show ¬ decide ((ws.length:Int)+1 < 1+(fm.cs.length:Int))=true by rw[decide_eq_true_eq];omega),if_neg (show ¬ ((!false)&&decide ((0:Int) < ((ws.length - fm.cs.length:Nat):Int)))=true by rw[decide_eq_false (by omega)];decide)]
   by_cases ho:Un.o∈(List.zip ws (signsT fm)).map lU
   ·rw[if_neg (λ q=>q.2 ho),if_pos (decide_eq_true ho)];exact .inl ⟨rfl,rfl⟩
   ·rw[if_pos ⟨hm,ho⟩,if_neg (by rw[decide_eq_true_eq];exact ho),T.ok_bind,cA (by rw[List.length_singleton];omega),aa];exact .inr ⟨_,rfl,rfl⟩
  ·rw[if_neg (λ q=>hm q.1)]
   left
   refine⟨rfl,?_⟩
   by_cases hs:ws.length < fm.cs.length
   ·rw[if_pos (decide_eq_true (by omega))]
   ·rw[if_neg (by rw[decide_eq_true_eq];omega),if_pos (by rw[decide_eq_true (show(0:Int) < ((ws.length - fm.cs.length:Nat):Int) by omega)];rfl)]
 | true =>
  have hzt:List.zip (ws.take fm.cs.length) (signsT fm)=List.zip ws (signsT fm):=by
   rw[←xJ fm];exact ztk _ _
  have prog:bH x=(if(ws.take fm.cs.length).length=fm.cs.length/\Un.o∉(List.zip ws (signsT fm)).map lU then .ok ((List.zip ws (signsT fm)).map lU) else .er 20 ():T Unit (List Un)).bind λ r11=>(T.ofO (catT [Un.t w] r11)).bind λ x12=>(bG (ws.drop fm.cs.length)).bind λ r13=>(T.ofO (catT x12 (List.map Un.l r13))).bind λ x14=>.ok (DeedT.mk x14):=by
   unfold bH;rw[e,aa,a0,aa,f1,if_neg (by decide),aa,f2,aa,aa,f3,if_neg (show ¬ (!true)=true by decide),hlf,aa,aa,hct,cfn,apc f5 (hbt _),hzt]
  have law:gQ x=if(decide ((ws.length:Int)+1 < 1+(fm.cs.length:Int)))=true then .ok (Enc.enc ():D) else T.bindL ((bu (ws.drop fm.cs.length)).bind λ r11=>if(Option.isNone r11)=true then(.ok (.rt (Enc.enc ():D))) else((T.ofO r11).bind λ u12=>(T.ofO (catT (((List.zip ws (signsT fm)).map lU).map Enc.enc) (encs u12))).bind λ x13=>.ok (.nx x13))) (λ parts10 =>
 (T.ofO (inND parts10)).bind λ x14 =>
 if x14=true then(.ok (Enc.enc ():D)) else(
 (T.ofO (catT (encs (([w]:List Tx):(List Tx))) (encs parts10))).bind λ x16 =>
 .ok (PyData.tuple x16))) (λ r_=>.ok r_):=by
   unfold gQ;rw[e,aa,a0,aa,f4,T.ok_bind,if_neg (show ¬ (Option.isNone (some (fm2 fm _)))=true from Bool.false_ne_true),aa,T.gd_of f6,f7,hlf,aa,aa,f8,cfn,hcl];refine yU ?_;rw[if_neg (show ¬ ((!true)&&decide ((0:Int) < ((List.length (ws.drop fm.cs.length):Nat):Int)))=true from Bool.false_ne_true),cf1,hL,T.ok_bind,if_pos (show(!(!true))=true from rfl),afT]
   rfl
  rw[prog,law]
  by_cases hs:ws.length < fm.cs.length
  ·rw[if_pos (show decide ((ws.length:Int)+1 < 1+(fm.cs.length:Int))=true from decide_eq_true (by omega)),if_neg (λ q=>by have:=q.1;rw[List.length_take]at this;omega)];exact .inl ⟨rfl,rfl⟩
  have htl:(ws.take fm.cs.length).length=fm.cs.length:=by rw[List.length_take];omega
  have hdl:(ws.drop fm.cs.length).length<=ws.length:=by rw[List.length_drop];omega
  rw[if_neg (show ¬ decide ((ws.length:Int)+1 < 1+(fm.cs.length:Int))=true by rw[decide_eq_true_eq];omega)]
  generalize (List.zip ws (signsT fm)).map lU=us at hzl ⊢
  rcases ak4 (ws:=ws.drop fm.cs.length) (by omega) (hbd _) with ⟨s1,s2⟩ | ⟨a,b,s1,s2,s3⟩
  ·left
   constructor
   ·rw[s1]
    by_cases ho:Un.o∈us
    ·rw[if_neg (λ q=>q.2 ho)]
     rfl
    ·rw[if_pos ⟨htl,ho⟩,T.ok_bind,cA (by rw[List.length_singleton];omega),aa]
     rfl
   ·rw[s2]
    rfl
  ·have he:encs (([a.map some,b.map some]:List (List (Option Tx))))=([Un.l a,Un.l b].map Enc.enc:List D):=by
    have key:∀ l:List Tx,(Enc.enc (l.map some):D)=Enc.enc (Un.l l):=λ l=>by
     show PyData.list ((l.map some).map Enc.enc)=PyData.list (l.map Enc.enc);rw[List.map_map]
     rfl
    show [(Enc.enc (a.map some):D),Enc.enc (b.map some)]=[Enc.enc (Un.l a),Enc.enc (Un.l b)];rw[key,key]
   have hL2:T.bindL ((bu (ws.drop fm.cs.length)).bind λ r11=>if(Option.isNone r11)=true then(.ok (.rt (Enc.enc ():D))) else((T.ofO r11).bind λ u12=>(T.ofO (catT (us.map Enc.enc) (encs u12))).bind λ x13=>.ok (.nx x13))) (λ parts10 =>
 (T.ofO (inND parts10)).bind λ x14 =>
 if x14=true then(.ok (Enc.enc ():D)) else(
 (T.ofO (catT (encs (([w]:List Tx):(List Tx))) (encs parts10))).bind λ x16 =>
 .ok (PyData.tuple x16))) (λ r_=>.ok r_)=if decide (Un.o∈us++[Un.l a,Un.l b])=true then(.ok (Enc.enc ():D):T Empty D) else .ok (Enc.enc (DeedT.mk (.t w::(us++[Un.l a,Un.l b]))):D):=by
    rw[s2,T.ok_bind,if_neg (show ¬ (Option.isNone (some [a.map some,b.map some]))=true from Bool.false_ne_true),aa,he,cA (by rw[List.length_map,List.length_map,List.length_cons,List.length_cons,List.length_nil];omega),aa,T.bindL_nx,←List.map_append,afS,aa];refine yU ?_;rw[afT,cA (by simp only[encs,List.length_append,List.length_map,List.length_cons,List.length_nil];omega),aa]
    rfl
   rw[hL2,s1]
   by_cases ho:Un.o∈us
   ·left
    constructor
    ·rw[if_neg (λ q=>q.2 ho)]
     rfl
    ·rw[if_pos (decide_eq_true (List.mem_append_left _ ho))]
   ·have ho2:Un.o∉us++[Un.l a,Un.l b]:=by simp[ho]
    right
    refine⟨.t w::(us++[Un.l a,Un.l b]),?_,?_⟩
    ·rw[if_pos ⟨htl,ho⟩,T.ok_bind,cA (by rw[List.length_singleton];omega),aa,T.ok_bind,cA (by simp only[List.length_append,List.length_map,List.length_cons,List.length_nil];omega),aa]
     rfl
    ·rw[if_neg (by rw[decide_eq_true_eq];exact ho2)]
def UB:Un->Prop
 | .i n=>numOk n
 | .t x=>x.cs.length<=12
 | .l xs=>xs.length<=16/\∀ x∈xs,x.cs.length<=12
 | .o=>False
theorem acv:∀ (ws:List Tx),(∀ x∈ws,x.cs.length<=12)->tot ws<=ws.length * 13
 | [],_=>Nat.le_refl _
 | w::ws,h=>by
  have h1:=h w List.mem_cons_self
  have h2:=acv ws λ x hx=>h x (List.mem_cons_of_mem _ hx)
  rw[kZ,List.length_cons]
  omega
theorem aiO:∀ (us:List Un) (b:Bool),(∀ u∈us,UB u)->tot (wU us b)<=us.length * 250
 | [],_,_=>Nat.le_refl _
 | u::us,b,h=>by
  have h1:=h u List.mem_cons_self
  have h2:=λ b=>aiO us b λ v hv=>h v (List.mem_cons_of_mem _ hv)
  have hr:(u::us).length * 250=us.length * 250+250:=by rw[List.length_cons];omega
  cases u with
  | i n =>
   have:=ak2 h1
   have:=h2 b
   show tot (nI n::wU us b)<=_;rw[kZ]
   omega
  | t y =>
   have:y.cs.length<=12:=h1
   have:=h2 b
   show tot (y::wU us b)<=_;rw[kZ]
   omega
  | o=>exact h1.elim
  | l xs =>
   obtain⟨q1,q2⟩:=h1
   have:=h2 true
   have:=acv xs q2
   have hs:(sgn b).cs.length<=12:=by cases b<;>decide
   show tot (sgn b::(xs++wU us true))<=_;rw[kZ,qU]
   omega
theorem ang {u:Un}(h:UB u):u.isL=true∨strU u=some (strW u):=by
 cases u with
 | i n=>exact .inr (ak3 h)
 | t x=>exact .inr rfl
 | l xs=>exact .inl rfl
 | o=>exact h.elim
theorem ah7 (s:SrcT):(iz s).Post λ p=>numOk p.1:=by
 unfold iz;obtain⟨r1,s2,e1,a0,a1⟩:=cP s (n:=4) (by omega);rw[e1,T.ok_bind]
 dsimp only
 by_cases h0:r1=0
 ·rw[if_pos (decide_eq_true h0)];obtain⟨r3,s4,e3,b0,b1⟩:=cP s2 (n:=6) (by omega);rw[e3,T.ok_bind]
  dsimp only
  refine cC (pZ (xs:=([(0:Int),(9:Int),(10:Int),(999999999:Int),(100000000:Int),(99:Int)]:List Int)) b0 (by simpa using b1)) (bM ?_)
  have:∀ x∈([(0:Int),(9:Int),(10:Int),(999999999:Int),(100000000:Int),(99:Int)]:List Int),0<=x/\x < 1000000000:=by decide
  exact this _ (List.getElem_mem _)
 ·rw[if_neg (by rw[decide_eq_true_eq];exact h0)]
  by_cases h1:r1=1
  ·rw[if_pos (decide_eq_true h1)];obtain⟨r6,s7,e6,b0,b1⟩:=cP s2 (n:=1000000000) (by omega);rw[e6,T.ok_bind];exact bM ⟨b0,b1⟩
  ·rw[if_neg (by rw[decide_eq_true_eq];exact h1)];obtain⟨r8,s9,e8,b0,b1⟩:=cP s2 (n:=30) (by omega);rw[e8,T.ok_bind];exact bM ⟨b0,by show r8 < 1000000000;omega⟩
theorem anh (s:SrcT){ns:List Tx}(h0:0 < ns.length)(h1:ns.length<=500)(hg:∀ n∈ns,n.cs.length<=12):(m9 s ns).Post λ p=>p.1.length<=16/\∀ x∈p.1,x.cs.length<=12:=by
 unfold m9;obtain⟨r1,s2,e1,a0,a1⟩:=cP s (n:=4) (by omega);rw[e1,T.ok_bind]
 dsimp only
 refine cC (pZ (xs:=([(3:Int),(3:Int),(3:Int),(16:Int)]:List Int)) a0 (by simpa using a1)) ?_
 have:∀ x∈([(3:Int),(3:Int),(3:Int),(16:Int)]:List Int),0 < x/\x<=16:=by decide
 have hx:=this _ (List.getElem_mem (l:=([(3:Int),(3:Int),(3:Int),(16:Int)]:List Int)) (n:=r1.toNat) (by simp;omega))
 generalize ([(3:Int),(3:Int),(3:Int),(16:Int)]:List Int)[r1.toNat]'(by simp;omega)=x3 at hx
 obtain⟨r4,s5,e4,b0,b1⟩:=cP s2 (n:=x3) (by omega);rw[e4,T.ok_bind]
 dsimp only
 refine nO (ahP b0 (by omega)) (cQ (akG (P:=λ x:Tx=>x.cs.length<=12) (by rw[pM];omega) λ i hi v=>?_) ?_)
 ·obtain⟨r9,s10,e9,c0,c1⟩:=cP v (n:=(ns.length:Int)) (by omega);rw[e9,T.ok_bind]
  dsimp only
  refine cC (pZ c0 c1) (bM ?_);intro y hy
  injection hy with hy
  subst hy
  exact hg _ (List.getElem_mem _)
 ·rintro⟨l,s7⟩ ⟨q1,q2⟩;rw[pM]at q1;exact bM ⟨by show l.length<=16;dsimp only at q1;omega,q2⟩
theorem ak5:∀ k:Nat,k < 10->∃ w fm,([(tx "come"),(tx "rise"),(tx "die"),(tx "penance"),(tx "bring"),(tx "give"),(tx "pay"),(tx "claim"),(tx "wergild"),(tx "accuse")]:List Tx)[k]?=some w/\jB w=.ok (some fm)/\fm.cs.length<=6/\w.cs.length<=12
 | 0,_=>⟨tx "come",tx "abb",rfl,congrArg T.ok (by decide),by decide,by decide⟩
 | 1,_=>⟨tx "rise",tx "abb",rfl,congrArg T.ok (by decide),by decide,by decide⟩
 | 2,_=>⟨tx "die",tx "aba",rfl,congrArg T.ok (by decide),by decide,by decide⟩
 | 3,_=>⟨tx "penance",tx "a",rfl,congrArg T.ok (by decide),by decide,by decide⟩
 | 4,_=>⟨tx "bring",tx "ab",rfl,congrArg T.ok (by decide),by decide,by decide⟩
 | 5,_=>⟨tx "give",tx "baab",rfl,congrArg T.ok (by decide),by decide,by decide⟩
 | 6,_=>⟨tx "pay",tx "aabb",rfl,congrArg T.ok (by decide),by decide,by decide⟩
 | 7,_=>⟨tx "claim",tx "abbb+",rfl,congrArg T.ok (by decide),by decide,by decide⟩
 | 8,_=>⟨tx "wergild",tx "aabbb+",rfl,congrArg T.ok (by decide),by decide,by decide⟩
 | 9,_=>⟨tx "accuse",tx "babb+",rfl,congrArg T.ok (by decide),by decide,by decide⟩
 | k+10,h=>by omega
theorem ao1 (s:SrcT){ns:List Tx}(h0:0 < ns.length)(h1:ns.length<=500)(hg:∀ n∈ns,n.cs.length<=12):(jf s ns).Post λ p=>∃ w us,p.1=DeedT.mk (.t w::us)/\w.cs.length<=12/\us.length<=12/\∀ u∈us,UB u:=by
 unfold jf;obtain⟨r1,s2,e1,a0,a1⟩:=cP s (n:=10) (by omega);rw[e1,T.ok_bind]
 dsimp only
 obtain⟨k,rfl⟩:=Int.eq_ofNat_of_zero_le a0;obtain⟨w,fm,hw,hf,hfl,hwl⟩:=ak5 k (by omega);refine cC (show atI _ _=some w by rw[lN];exact hw) ?_;rw[hf,T.ok_bind,aa];refine cQ (sr (λ pre (v:SrcT×List Un)=>∃ us,v.2=.t w::us/\us.length<=2 * pre.length/\∀ u∈us,UB u) ⟨[],rfl,by simp,by simp⟩ ?_) ?_
 ·rintro pre x post ⟨s9,parts⟩ hx ⟨us,hp,hl,hu⟩
  dsimp only at hp ⊢
  subst hp
  have hpl:pre.length<=6:=by
   have:=congrArg List.length hx
   rw[xJ,List.length_append]at this
   omega
  have hadd:∀ {v:Un},UB v->∀ u∈us++[v],UB u:=λ {v} hv u h=>by
   rcases List.mem_append.mp h with h | h
   ·exact hu u h
   ·rw[List.mem_singleton.mp h];exact hv
  have hsz:(Un.t w::us).length < sizeLine:=szl _ (by rw[List.length_cons];omega)
  by_cases ha:x=tx "a"
  ·rw[if_pos (decide_eq_true ha)];obtain⟨r11,s12,e11,b0,b1⟩:=cP s9 (n:=(ns.length:Int)) (by omega);rw[e11,T.ok_bind]
   dsimp only
   refine cC (pZ b0 b1) (nO hsz (bM ⟨us++[_],rfl,?_,hadd ?_⟩))
   ·rw[List.length_append,List.length_append,List.length_singleton,List.length_singleton];omega
   ·exact hg _ (List.getElem_mem _)
  ·rw[if_neg (by rw[decide_eq_true_eq];exact ha)]
   by_cases hb:x=tx "b"
   ·rw[if_pos (decide_eq_true hb)];refine cQ (ah7 s9) ?_;rintro⟨r14,s15⟩ hr
    dsimp only at hr ⊢
    refine nO hsz (bM ⟨us++[_],rfl,?_,hadd (v:=.i r14) hr⟩);rw[List.length_append,List.length_append,List.length_singleton,List.length_singleton];omega
   ·rw[if_neg (by rw[decide_eq_true_eq];exact hb)];refine cQ (anh s9 h0 h1 hg) ?_;rintro⟨r16,s17⟩ hr
    dsimp only at hr ⊢
    refine cQ (anh s17 h0 h1 hg) ?_;rintro⟨r18,s19⟩ hr2
    dsimp only at hr2 ⊢
    refine cC (cA (by simp only[List.length_cons,List.length_map,List.length_nil];omega)) (bM ⟨us++[.l r16,.l r18],rfl,?_,?_⟩)
    ·rw[List.length_append,List.length_append,List.length_singleton]
     simp
     omega
    ·intro u h;rcases List.mem_append.mp h with h | h
     ·exact hu u h
     ·simp only[List.mem_cons,List.not_mem_nil,or_false]at h
      rcases h with rfl | rfl
      ·exact hr
      ·exact hr2
 ·rintro⟨s9,parts⟩ ⟨us,hp,hl,hu⟩
  dsimp only at hp ⊢
  subst hp
  rw[xJ]at hl;exact bM ⟨w,us,rfl,hwl,by omega,hu⟩
theorem ak6 {w:Tx}{us:List Un}(hw:w.cs.length<=12)(hl:us.length<=12)(hu:∀ u∈us,UB u):(lJ (DeedT.mk (.t w::us))).Post λ x=>x.cs.length<=4000:=by
 have hl2:(jc w (wU us false)).cs.length<=4000:=by
  have:=acs w (wU us false)
  have:=aiO us false hu
  rw[kZ]at *
  omega
 unfold lJ;rw[show atI (DeedT.mk (.t w::us)).ps (0:Int)=some (.t w) from at0 _ _,aa,show Un.toT (.t w)=some w from rfl,aa]
 have hc:cutU (DeedT.mk (.t w::us)) (some (1:Int)) none=some (DeedT.mk us):=by
  unfold cutU
  have h1:HT.sIx (DeedT.mk (.t w::us)).ps.length 0 (some (1:Int))=1:=by
   unfold HT.sIx
   simp
  rw[if_neg (by rw[h1];omega),kJ (by omega)]
  rfl
 rw[hc,aa]
 have h0:jc w []=w:=by
  unfold jc;rw[List.flatMap_nil,List.append_nil]
 obtain⟨b',hb⟩:=tR w us [] false (λ u h=>ang (hu u h)) (by rw[List.nil_append];omega);rw[h0,List.nil_append]at hb;refine cQ (post_of (show T.forM (DeedT.mk us).ps (w,tx " +") _=_ from hb) (P:=λ v=>v.1.cs.length<=4000) hl2) ?_;rintro⟨x,y⟩ hx;exact bM hx
theorem afV {ε α:Type}{x y:Tx}{k:Tx->T ε α}{P:α->Prop}(h:x.cs.length+y.cs.length<=1000000)(h2:(k (x++y)).Post P):((T.ofO (catS x y)).bind k).Post P:=cC (yR h) h2
theorem abv {ε α:Type}{x:Tx}{lo hi:Option Int}{k:Tx->T ε α}{P:α->Prop}(h:x.cs.length<=1000000)(h2:(k ⟨cutT x.cs lo hi⟩).Post P):((T.ofO (cutS' x lo hi)).bind k).Post P:=cC (if_pos (sz _ h)) h2
theorem afW {ε α:Type}{ws:List Tx}{k:Tx->T ε α}{P:α->Prop}{n:Nat}(h:tot ws<=n)(hn:n<=100000)(h2:∀ x:Tx,x.cs.length<=n->(k x).Post P):((T.ofO (joinT (tx " ") ws)).bind k).Post P:=by
 cases ws with
 | nil =>
  refine cC (a:=tx "") (by decide) (h2 _ (Nat.zero_le _))
 | cons w ws =>
  have:=acs w ws
  exact cC (ah5 (by omega)) (h2 _ (by omega))
theorem ao2 {α:Type}{xs:List α}{k:Int}(h:0<=k):(cutT xs none (some k)).length<=k.toNat/\(cutT xs none (some k)).length<=xs.length:=by
 rw[ab2 h,List.length_take]
 omega
theorem afX {α:Type}{xs:List α}{k:Int}(h:0<=k):(cutT xs (some k) none).length=xs.length - k.toNat:=by
 rw[kJ h,List.length_drop]
theorem ah8 (s:SrcT){x:Tx}{n:Nat}(hx:x.cs.length<=n)(hn:n<=40000):(j5 s x).Post λ p=>p.1.cs.length<=2 * n+2:=by
 unfold j5;obtain⟨r1,s2,e1,a0,a1⟩:=cP s (n:=7) (by omega);rw[e1,T.ok_bind]
 dsimp only
 rw[qT (by omega),aa];obtain⟨r4,s5,e4,b0,b1⟩:=cP s2 (n:=(x.cs.length:Int)+1) (by omega);rw[e4,T.ok_bind]
 dsimp only
 have hsl:(tx " !\"#$&'()*+,-./0123456789:;<=>?@ABCDEFGHIJKLMNOPQRSTUVWXYZ[\\]^_`abcdefghijklmnopqrstuvwxyz{|}~").cs.length=94:=by decide
 generalize tx " !\"#$&'()*+,-./0123456789:;<=>?@ABCDEFGHIJKLMNOPQRSTUVWXYZ[\\]^_`abcdefghijklmnopqrstuvwxyz{|}~"=some50 at hsl ⊢
 rw[qT (by omega),aa,hsl];obtain⟨r7,s8,e7,c0,c1⟩:=cP s5 (n:=((94:Nat):Int)) (by omega);rw[e7,T.ok_bind]
 dsimp only
 have hat:∀ {y:Tx} {r:Int},y.cs.length<=100000->0<=r->r < (y.cs.length:Int)->∃ c,txAt y r=some ⟨[c]⟩:=λ {y r} h1 h2 h3=>by
  unfold txAt;rw[if_pos (sz _ (by omega)),pZ h2 h3];exact⟨_,rfl⟩
 obtain⟨c9,e9⟩:=hat (y:=some50) (by omega) c0 (by rw[hsl];exact c1);rw[e9,aa];refine cQ (P:=λ v:SrcT×Tx=>v.2.cs.length=1) ?_ ?_
 ·obtain⟨r12,s13,e12,_,_⟩:=cP s8 (n:=2) (by omega);rw[e12,T.ok_bind]
  dsimp only
  split
  ·obtain⟨r14,s15,e14,d0,d1⟩:=cP s13 (n:=5) (by omega);rw[e14,T.ok_bind]
   dsimp only
   obtain⟨c,e⟩:=hat (y:=tx " 0a+-") (by decide) d0 (by rw[show(tx " 0a+-").cs.length=5 by decide];exact d1);rw[e,aa];exact bM rfl
  ·exact bM rfl
 rintro⟨s10,sign⟩ hsg
 dsimp only at hsg ⊢
 obtain⟨w,ws,e,ej⟩:=acr (x:=x) (by omega)
 have ht:=acs w ws
 rw[ej]at ht
 have htl:=abu (w::ws)
 rw[e,aa]
 generalize hW:w::ws=W at ht htl
 have hW0:0 < W.length:=by rw[←hW];simp
 obtain⟨r18,s19,e18,f0,f1⟩:=cP s10 (n:=(W.length:Int)) (by omega);rw[e18,T.ok_bind]
 dsimp only
 have k1:=ao2 (xs:=x.cs) b0
 have k2:=afX (xs:=x.cs) b0
 have k3:=afX (xs:=x.cs) (k:=r4+1) (by omega)
 have lcs:∀ l:List (Fin 1114112),(⟨l⟩:Tx).cs.length=l.length:=λ _=>rfl
 have hcut:=afR W r18.toNat
 have hcut2:=afR W (r18+1).toNat
 have t1:cutT W none (some r18)=W.take r18.toNat:=ab2 f0
 have t2:cutT W (some r18) none=W.drop r18.toNat:=kJ f0
 have t3:cutT W (some (r18+1)) none=W.drop (r18+1).toNat:=kJ (by omega)
 have hw1:(W.take r18.toNat).length<=W.length:=by rw[List.length_take];omega
 have hw2:(W.drop r18.toNat).length<=W.length:=by rw[List.length_drop];omega
 have hw3:(W.drop (r18+1).toNat).length<=W.length:=by rw[List.length_drop];omega
 have hay:=pZ f0 f1
 have hym:(W[r18.toNat]'(by omega))∈W:=List.getElem_mem _
 have hdy:tot (W.drop (r18+1).toNat)+((W[r18.toNat]'(by omega)).cs.length+1)=tot (W.drop r18.toNat):=by
  rw[show(r18+1).toNat=r18.toNat+1 by omega,List.drop_eq_getElem_cons (show r18.toNat < W.length by omega),kZ]
  omega
 generalize W[r18.toNat]'(by omega)=y at hay hym hdy
 have hyt:=abt hym
 have ty:tot [y]=y.cs.length+1:=rfl
 split
 ·refine abv (by omega) (afV ?_ (abv (by omega) (afV ?_ (bM ?_))))
  all_goals (try dsimp only)
  all_goals simp only[Tx.app_cs,List.length_append,lcs,hsg,k2]
  all_goals omega
 split
 ·refine abv (by omega) (abv (by omega) (afV ?_ (bM ?_)))
  all_goals (try dsimp only)
  all_goals simp only[Tx.app_cs,List.length_append,lcs,hsg,k3]
  all_goals omega
 split
 ·refine abv (by omega) (afV ?_ (abv (by omega) (afV ?_ (bM ?_))))
  all_goals (try dsimp only)
  all_goals simp only[Tx.app_cs,List.length_append,lcs,hsg,k3]
  all_goals omega
 rw[t1,t2,t3]
 split
 ·refine cC (cA (by omega)) (afW (n:=2 * n+2) (by rw[qU];omega) (by omega) λ z hz=>bM hz)
 split
 ·refine cC hay (cC (cA (by rw[List.length_singleton];omega)) (cC (cA (by rw[List.length_append,List.length_singleton];omega)) (afW (n:=2 * n+2) (by rw[qU,qU,ty];omega) (by omega) λ z hz=>bM hz)))
 split
 ·refine cC (cA (by omega)) (cC hay (cC (cA (by rw[List.length_append,List.length_singleton];omega)) (afW (n:=2 * n+2) (by rw[qU,qU,ty];omega) (by omega) λ z hz=>bM hz)))
 ·refine abv (by omega) (bM ?_);show(cutT x.cs none (some r4)).length<=_
  omega
theorem apr:neDL ([(Enc.enc (tx "refused"):D),(Enc.enc true:D)]:List D) ([(Enc.enc (tx "refused"):D),(Enc.enc true:D)]:List D)=some false:=by
 have hs:SeqAt.shaped (.list [(Enc.enc (tx "refused"):D),(Enc.enc true:D)])=true:=by
  unfold SeqAt.shaped
  have h1:PyData.canLay0 (.list [(Enc.enc (tx "refused"):D),(Enc.enc true:D)])=true:=by
   simp[PyData.canLay0,PyData.canLayAll0,Sh.lay (tx "refused"),Sh.lay true]
  have h2:PyData.depth (.list [(Enc.enc (tx "refused"):D),(Enc.enc true:D)])<=64:=by
   have:=Sh.dp (tx "refused")
   have:=Sh.dp true
   have q1:Sh.dep Tx=0:=rfl
   have q2:Sh.dep Bool=0:=rfl
   simp only[PyData.depth,PyData.depthAll]
   omega
  rw[h1,Bool.true_and];exact decide_eq_true h2
 unfold neDL;rw[if_pos (.inr ⟨hs,hs⟩)]
 simp only[PyData.eqv,PyData.eqvAll,Sh.eqv (tx "refused") (tx "refused"),Sh.eqv true true]
 rfl
theorem ah9 {x:Tx}(h:bH x=.er 20 ()):jr x=.ok [(Enc.enc (tx "refused"):D),(Enc.enc true:D)]:=by
 unfold jr;rw[h]
 rfl
theorem aia {x:Tx}{d:DeedT}(h:bH x=.ok d):jr x=.ok [(Enc.enc (tx "told"):D),(Enc.enc d:D)]:=by
 unfold jr;rw[h]
 rfl
theorem ani (us:List Un):vI (Enc.enc ([(Enc.enc (tx "told"):D),(Enc.enc (DeedT.mk us):D)]:List D):D) (Enc.enc ([(Enc.enc (tx "told"):D),(Enc.enc (DeedT.mk us):D)]:List D):D)=.ok true:=by
 have h:Lw.Pl 12 (Enc.enc ([(Enc.enc (tx "told"):D),(Enc.enc (DeedT.mk us):D)]:List D):D):=by
  intro d hd
  have hd:d∈[(Enc.enc (tx "told"):D),(Enc.enc (DeedT.mk us):D)].map (λ d:D=>d):=hd
  rw[List.map_id']at hd
  simp only[List.mem_cons,List.not_mem_nil,or_false]at hd
  rcases hd with rfl | rfl
  ·trivial
  ·intro e he;obtain⟨u,_,rfl⟩:=List.mem_map.mp he
   cases u with
   | i n=>trivial
   | t y=>trivial
   | o=>trivial
   | l xs =>
    intro f hf;obtain⟨y,_,rfl⟩:=List.mem_map.mp hf
    trivial
 unfold vI;rw[if_pos ⟨h,h⟩,Lw.rO]
theorem aib (ns:List Int)(hn:ns.length<=63):nj ns=.ok true:=by
 suffices h:(nj ns).Post λ b=>b=true by
  obtain⟨b,e,rfl⟩:=h;exact e
 unfold nj;obtain⟨s0,e0⟩:=ahI hn;rw[e0,T.ok_bind];obtain⟨r2,s3,e2,a0,a1⟩:=cP s0 (n:=4) (by omega);rw[e2,T.ok_bind]
 dsimp only
 obtain⟨nms,s5,e4,l4,d4,g4⟩:=acV s3 (m:=1+r2) (by omega);rw[e4,T.ok_bind]
 dsimp only
 have hg:∀ n∈nms,n.cs.length<=12:=λ n h=>(g4 n h).2.2
 refine nO (ahP (by omega) (by omega)) (acW (P:=λ _:SrcT=>True) (rZ (ae6 (λ _ (_:SrcT)=>True) trivial ?_) λ z hz=>?_) ?_)
 ·rintro pre x post s8 hx _;refine cQ (ao1 s8 (ns:=nms) (by omega) (by omega) hg) ?_;rintro⟨d,s10⟩ ⟨w,us,hd,hw,hl,hu⟩
  dsimp only at hd ⊢
  subst hd
  refine cQ (ak6 hw hl hu) ?_;intro x11 hx11;obtain⟨r12,s13,e12,b0,b1⟩:=cP s10 (n:=4) (by omega);rw[e12,T.ok_bind]
  dsimp only
  refine nO (ahP b0 (by omega)) (cQ (sr (λ pre (v:SrcT×Tx)=>v.2.cs.length+2<=4002 * 2 ^ pre.length) (by show x11.cs.length+2<=_;simp;omega) ?_) ?_)
  ·rintro pre x post ⟨s17,t18⟩ hx hlen
   dsimp only at hlen ⊢
   have hp:pre.length<=2:=by
    have:=congrArg List.length hx
    rw[pM,List.length_append,List.length_cons]at this
    omega
   have hb:4002 * 2 ^ pre.length<=16008:=by
    match h:pre.length,hp with
    | 0,_=>decide
    | 1,_=>decide
    | 2,_=>decide
   refine cQ (ah8 s17 (x:=t18) (Nat.le_refl _) (by omega)) ?_;rintro⟨y,s20⟩ hy
   dsimp only at hy ⊢
   refine bM ?_;show y.cs.length+2<=_;rw[List.length_append,List.length_singleton,Nat.pow_succ]
   omega
  ·rintro⟨s17,t18⟩ hlen
   dsimp only at hlen ⊢
   rw[pM]at hlen
   have hb:4002 * 2 ^ r12.toNat<=32016:=by
    match h:r12.toNat,(show r12.toNat<=3 by omega) with
    | 0,_=>decide
    | 1,_=>decide
    | 2,_=>decide
    | 3,_=>decide
   rcases anf (x:=t18) (by omega) with ⟨q1,q2⟩ | ⟨vs,q1,q2⟩
   ·rw[q2,T.ok_bind,ah9 q1,T.ok_bind,if_pos (show nonD (Enc.enc ():D)=true from rfl),apr,aa,if_neg (by decide)];exact bM ⟨_,rfl,trivial⟩
   ·rw[q2,T.ok_bind,aia q1,T.ok_bind,if_neg (show ¬ nonD (Enc.enc (DeedT.mk vs):D)=true from Bool.false_ne_true),ani,T.ok_bind,if_neg (by decide)];exact bM ⟨_,rfl,trivial⟩
 ·obtain⟨v',rfl,_⟩:=hz;exact⟨v',rfl,trivial⟩
 ·intro s8 _;exact bM rfl
end Ty
namespace Lw
open PySem VS L2
theorem aic (ns:List Int)(hn:ns.length<=63):∃ L,jx [some (.scr ns)]=.ok (.d (.bool true)) L:=aku (Ty.ac7 ns) rfl (Ty.aib ns hn)
end Lw
namespace Tx
open PySem PySem.Spec PyProof.Rows L2 VS
abbrev aas:List Str:=["_law_script"]
theorem ac8:FnScope aas ["_law_script"] (defScope iK):=⟨rfl,rfl,rfl,by decide +kernel,rfl,by decide +kernel,by decide +kernel⟩
abbrev xK:List Str:=["_law_src_here","_law_base","_law_cell","_law_digit"]
theorem abw:FnScope xK Q3 (defScope gJ):=⟨rfl,rfl,rfl,by decide +kernel,rfl,by decide +kernel,by decide +kernel⟩
abbrev tU:List Str:=["_law_src_here","_law_many","_law_letters","_law_k"]
theorem abx:FnScope tU Q5 (defScope fB):=⟨rfl,rfl,rfl,by decide +kernel,rfl,by decide +kernel,by decide +kernel⟩
abbrev ul:List Str:=["_law_names_here","_law_name","_law_letters","_law_stem","_law_tries"]
theorem yV:FnScope ul ["_law_names_here","_law_name"] (defScope dD):=⟨rfl,rfl,rfl,by decide +kernel,rfl,by decide +kernel,by decide +kernel⟩
abbrev vZ:List Str:=["_law_src_here","_law_many","_law_style","_law_stem","_law_at","_law_names_here","_law_k","_law_name"]
theorem aat:FnScope vZ Q5 (defScope eE):=⟨rfl,rfl,rfl,by decide +kernel,rfl,by decide +kernel,by decide +kernel⟩
abbrev v4:List Str:=["_law_deed","_law_text","_law_sign","_law_part","_law_name"]
theorem aau:FnScope v4 ["_law_deed"] (defScope eG):=⟨rfl,rfl,rfl,by decide +kernel,rfl,by decide +kernel,by decide +kernel⟩
abbrev xN:List Str:=["_law_word_here","_law_forms","_law_more"]
theorem aby:FnScope xN ["_law_word_here"] (defScope gK):=⟨rfl,rfl,rfl,by decide +kernel,rfl,by decide +kernel,by decide +kernel⟩
abbrev nq:List Str:=["_law_word_here","_law_sign"]
theorem sU:FnScope nq ["_law_word_here"] (defScope bA):=⟨rfl,rfl,rfl,by decide +kernel,rfl,by decide +kernel,by decide +kernel⟩
abbrev pD:List Str:=["_law_word_here","_law_sign"]
theorem uB:FnScope pD ["_law_word_here"] (defScope bT):=⟨rfl,rfl,rfl,by decide +kernel,rfl,by decide +kernel,by decide +kernel⟩
abbrev pF:List Str:=["_law_sign","_law_word_here"]
theorem uC:FnScope pF ["_law_sign","_law_word_here"] (defScope bU):=⟨rfl,rfl,rfl,by decide +kernel,rfl,by decide +kernel,by decide +kernel⟩
abbrev jh:List Str:=["_law_words","_law_cut","_law_ones","_law_others","_law_word_here"]
theorem tV:FnScope jh ["_law_words"] (defScope bj):=⟨rfl,rfl,rfl,by decide +kernel,rfl,by decide +kernel,by decide +kernel⟩
abbrev tW:List Str:=["_law_text","_law_words","_law_form_here","_law_plain","_law_rest","_law_parts","_law_sides","_law_sign","_law_word_here"]
theorem abz:FnScope tW ["_law_text"] (defScope fD):=⟨rfl,rfl,rfl,by decide +kernel,rfl,by decide +kernel,by decide +kernel⟩
abbrev aav:List Str:=["text","sign"]
theorem ac9:FnScope aav ["text"] (defScope iQ):=⟨rfl,rfl,rfl,by decide +kernel,rfl,by decide +kernel,by decide +kernel⟩
abbrev v5:List Str:=["word"]
theorem aaw:FnScope v5 ["word"] (defScope eO):=⟨rfl,rfl,rfl,by decide +kernel,rfl,by decide +kernel,by decide +kernel⟩
abbrev lV:List Str:=["words","cut","ones","others","word"]
theorem yW:FnScope lV ["words"] (defScope bZ):=⟨rfl,rfl,rfl,by decide +kernel,rfl,by decide +kernel,by decide +kernel⟩
abbrev sV:List Str:=["word","sign"]
theorem wF:FnScope sV ["word"] (defScope cI):=⟨rfl,rfl,rfl,by decide +kernel,rfl,by decide +kernel,by decide +kernel⟩
abbrev uo:List Str:=["words","form","parts","word","sign"]
theorem yX:FnScope uo ["words","form"] (defScope dH):=⟨rfl,rfl,rfl,by decide +kernel,rfl,by decide +kernel,by decide +kernel⟩
abbrev v7:List Str:=["text","words","form","cut"]
theorem aax:FnScope v7 ["text"] (defScope eQ):=⟨rfl,rfl,rfl,by decide +kernel,rfl,by decide +kernel,by decide +kernel⟩
abbrev v8:List Str:=["_law_text","_law_found_here","e"]
theorem aay:FnScope v8 ["_law_text"] (defScope eU):=⟨rfl,rfl,rfl,by decide +kernel,rfl,by decide +kernel,by decide +kernel⟩
abbrev uv:List Str:=["_law_src_here","_law_kind"]
theorem yZ:FnScope uv ["_law_src_here"] (defScope dI):=⟨rfl,rfl,rfl,by decide +kernel,rfl,by decide +kernel,by decide +kernel⟩
abbrev v9:List Str:=["_law_src_here","_law_names_here","_law_k"]
theorem ada:FnScope v9 Q4 (defScope gU):=⟨rfl,rfl,rfl,by decide +kernel,rfl,by decide +kernel,by decide +kernel⟩
abbrev qC:List Str:=["_law_src_here","_law_names_here","_law_words","_law_word_here","_law_parts","_law_sign"]
theorem wg:FnScope qC Q4 (defScope bY):=⟨rfl,rfl,rfl,by decide +kernel,rfl,by decide +kernel,by decide +kernel⟩
abbrev uw:List Str:=["_law_src_here","_law_text","_law_some","_law_kind","_law_at","_law_sign","_law_words","_law_place"]
theorem zg:FnScope uw ["_law_src_here","_law_text"] (defScope dJ):=⟨rfl,rfl,rfl,by decide +kernel,rfl,by decide +kernel,by decide +kernel⟩
abbrev wj:List Str:=["_law_found_here"]
theorem aaz:FnScope wj ["_law_found_here"] (defScope eV):=⟨rfl,rfl,rfl,by decide +kernel,rfl,by decide +kernel,by decide +kernel⟩
abbrev xO:List Str:=["_law_found_here","_law_due","_law_one","_law_other"]
theorem abA:FnScope xO Q6 (defScope gM):=⟨rfl,rfl,rfl,by decide +kernel,rfl,by decide +kernel,by decide +kernel⟩
abbrev anj:List Str:=["_law_script","_law_src_here","_law_names_here","_law_k","_law_text","_law_more","_law_due","_law_found_here"]
theorem ank:FnScope anj ["_law_script"] (defScope sX):=⟨rfl,rfl,rfl,by decide +kernel,rfl,by decide +kernel,by decide +kernel⟩
section
variable {P:Program}{w:World}{K:W.Frag}{mg:Str->Option Value}{base:Heap}{ca:Nat->Addr}
theorem adb {f:Addr}{fd:FuncData}(F:Fun K "_law_src" "_law_src" iK f fd) (z_list:mg "list"=none):FnOk P w K mg base (L2.CX P w) 1 f fd ["_law_script"] (VSp K ca [true] Lw.mK):=by
 refine j7 (k:=0) F ac8 rfl (by decide) λ cdv A outer s H E vs hr B=>?_
 have tk:Takes (ctOf P w K mg base ca aas "_law_src" (defScope iK) f cdv A outer s H E [true] vs B).X _:=takes_of rfl rfl rfl rfl
 exact(aA (bf (ju (aH (aM (aiY (by rfl) z_list (dU (aM (fG (aq 0 (pv 0)) j6 (ji ao)))))) (aH ao (aH ao (aH ao (aH ao d8))))))))
theorem abB {f:Addr}{fd:FuncData}(F:Fun K "_law_next" "_law_next" gJ f fd) (z_len:mg "len"=none):FnOk P w K mg base (L2.CX P w) 1 f fd Q3 (VSp K ca Q0 Lw.az):=by
 refine j7 (k:=0) F abw rfl (by decide) λ cdv A outer s H E vs hr B=>?_
 have tk:Takes (ctOf P w K mg base ca xK "_law_next" (defScope gJ) f cdv A outer s H E Q0 vs B).X _:=takes_of rfl rfl rfl rfl
 exact(aj (rB 0 (pv 0) ao (aM (bO (cV 0 (pv 0) ao) ao)))
  (aj (cX (aG adI (dU (cV 0 (pv 0) ao)) (dU ao) (nomark _)) (aj (bz 2 abw.nd rfl (by first | exact Or.inl rfl | exact Or.inr rfl) (by intro h;cases h) (jG ao))
  (aj (cX (aG aaN (dU (cV 0 (pv 0) ao)) (dU (fj (by rfl) z_len (dU (cV 0 (pv 0) ao)))) (nomark _)) (aj (bz 2 abw.nd rfl (by first | exact Or.inl rfl | exact Or.inr rfl) (by intro h;cases h) (jG (agg (cV 0 (pv 0) ao) (cV 0 (pv 0) ao))))
  (aA (rB 0 (pv 0) ao (aM (bO (cV 0 (pv 0) ao) ao))))) bJ)
  (aj (rB 0 (pv 0) ao (wI (aM (bO (aM (bO (aM (aig (cV 0 (pv 0) ao) ao)) (wI (aF 2 (pv 2)) ao))) (cV 0 (pv 0) ao))) ao))
  (aA (cX (aG anE (aq 2 (pv 2)) (dU (alk ao ao)) (nomark _)) (aA (rB 0 (pv 0) ao (aF 2 (pv 2)))) bJ))))) bJ)
  (aj (cX (aG aaO (dU (cV 0 (pv 0) ao)) (dU ao) (nomark _)) (aj (bz 3 abw.nd rfl (by first | exact Or.inl rfl | exact Or.inr rfl) (by intro h;cases h) (jG (wI (cV 0 (pv 0) ao) (aF 1 (pv 1)))))
  (aj (rB 0 (pv 0) ao (adt (cV 0 (pv 0) ao) (aF 1 (pv 1))))
  (aA (bf (nu 3 (pv 3)))))) bJ)
  (aA (bf (jG (wI (adt (wI (aM (aig (cV 0 (pv 0) ao) ao)) ao) ao) (aF 1 (pv 1)))))))))
theorem abC {f:Addr}{fd:FuncData}(F:Fun K "_law_word" "_law_word" fB f fd) (D_law_next:Dx P w K mg base ca "_law_next" 1 Q3 Q0 Lw.az) (z_range:mg "range"=none):FnOk P w K mg base (L2.CX P w) 2 f fd Q5 (VSp K ca Q0 Lw.cW):=by
 refine j7 (k:=1) F abx rfl (by decide) λ cdv A outer s H E vs hr B=>?_
 have tk:Takes (ctOf P w K mg base ca tU "_law_word" (defScope fB) f cdv A outer s H E Q0 vs B).X _:=takes_of rfl rfl rfl rfl
 exact(aj (bz 2 abx.nd rfl (by first | exact Or.inl rfl | exact Or.inr rfl) (by intro h;cases h) (jG aP))
  (aA (bf (jG (xR aP (dU (aM (alo (own:=[("_law_k",3)]) rfl abx.nd (mF (by rfl) z_range (aH (aF 1 (pv 1)) d8)) (blkOk_by (own:=[("_law_k",3)]) (N:=tU) (sc:=defScope fB) (by decide +kernel)) (λ _=>(dO 3 (by intro h;cases h) (pg_name (i:=3) abx.nd rfl (by first | exact Or.inl rfl | exact Or.inr rfl)))) (by decide) (by intro k hk;simp only[List.map_cons,List.map_nil,List.mem_cons,List.not_mem_nil,or_false]at hk;rcases hk with rfl<;>(intro h;cases h)) (λ _=>qG) (λ _=>(cV 2 (pv 2) (aM (cD D_law_next hr (by decide) takes0 (by rfl) (fZ 0 (pv 0) (cG ao aN))))))))))))))
theorem zj {f:Addr}{fd:FuncData}(F:Fun K "_law_unlike" "_law_unlike" dD f fd) (z_range:mg "range"=none) (z_len:mg "len"=none):FnOk P w K mg base (L2.CX P w) 1 f fd ["_law_names_here","_law_name"] (VSp K ca Q0 Lw.gW):=by
 refine j7 (k:=0) F yV rfl (by decide) λ cdv A outer s H E vs hr B=>?_
 have tk:Takes (ctOf P w K mg base ca ul "_law_unlike" (defScope dD) f cdv A outer s H E Q0 vs B).X _:=takes_of rfl rfl rfl rfl
 exact(aj (bz 2 yV.nd rfl (by first | exact Or.inl rfl | exact Or.inr rfl) (by intro h;cases h) (jG aP))
  (aj (bz 3 yV.nd rfl (by first | exact Or.inl rfl | exact Or.inr rfl) (by intro h;cases h) (fG (aq 1 (pv 1)) j6 (ji ao)))
  (aj (mG PassesOwn.leaving rfl (mF (by rfl) z_range (aH (aM (bO (fj (by rfl) z_len (aq 0 (pv 0))) ao)) d8)) (dO 4 (by intro h;cases h) (pg_name (i:=4) yV.nd rfl (by first | exact Or.inl rfl | exact Or.inr rfl))) (aj (cX (aG (uG hr) (aq 1 (pv 1)) (aq 0 (pv 0)) rfl) (aA (bf (nu 1 (pv 1)))) bJ)
  (aA (bz 1 yV.nd rfl (by first | exact Or.inl rfl | exact Or.inr rfl) (by intro h;cases h) (bO (aM (bO (aF 3 (pv 3)) (cV 2 (pv 2) (wI (aF 4 (pv 4)) ao)))) (cV 2 (pv 2) (adt (aF 4 (pv 4)) ao)))))))
  (aA (bf (nu 1 (pv 1)))))))
theorem aaA {f:Addr}{fd:FuncData}(F:Fun K "_law_names" "_law_names" eE f fd) (D_law_next:Dx P w K mg base ca "_law_next" 1 Q3 Q0 Lw.az) (D_law_word:Dx P w K mg base ca "_law_word" 2 Q5 Q0 Lw.cW) (D_law_unlike:Dx P w K mg base ca "_law_unlike" 1 ["_law_names_here","_law_name"] Q0 Lw.gW) (z_len:mg "len"=none) (z_range:mg "range"=none):FnOk P w K mg base (L2.CX P w) 3 f fd Q5 (VSp K ca Q0 Lw.jj):=by
 refine j7 (k:=2) F aat rfl (by decide) λ cdv A outer s H E vs hr B=>?_
 have tk:Takes (ctOf P w K mg base ca vZ "_law_names" (defScope eE) f cdv A outer s H E Q0 vs B).X _:=takes_of rfl rfl rfl rfl
 exact(aj (bz 2 aat.nd rfl (by first | exact Or.inl rfl | exact Or.inr rfl) (by intro h;cases h) (cD D_law_next hr (by decide) tk (by rfl) (fZ 0 (pv 0) (cG ao aN))))
  (aj (bz 3 aat.nd rfl (by first | exact Or.inl rfl | exact Or.inr rfl) (by intro h;cases h) (cD D_law_word hr (by decide) tk (by rfl) (fZ 0 (pv 0) (cG (aM (bO ao (aM (cD D_law_next hr (by decide) tk (by rfl) (fZ 0 (pv 0) (cG ao aN)))))) aN))))
  (aj (bz 4 aat.nd rfl (by first | exact Or.inl rfl | exact Or.inr rfl) (by intro h;cases h) (cD D_law_next hr (by decide) tk (by rfl) (fZ 0 (pv 0) (cG (fj (by rfl) z_len (aq 3 (pv 3))) aN))))
  (aj (bz 5 aat.nd rfl (by first | exact Or.inl rfl | exact Or.inr rfl) (by intro h;cases h) (ju d8))
  (aj (mG PassesOwn.leaving rfl (mF (by rfl) z_range (aH (aF 1 (pv 1)) d8)) (dO 6 (by intro h;cases h) (pg_name (i:=6) aat.nd rfl (by first | exact Or.inl rfl | exact Or.inr rfl))) (aj (bz 7 aat.nd rfl (by first | exact Or.inl rfl | exact Or.inr rfl) (by intro h;cases h) (bO (aM (bO (aM (fG (aq 3 (pv 3)) j6 (ji (aF 4 (pv 4))))) (aM (cD D_law_word hr (by decide) tk (by rfl) (fZ 0 (pv 0) (cG ao aN)))))) (aM (fG (aq 3 (pv 3)) (ji (aM (bO (aF 4 (pv 4)) ao))) j6))))
  (aj (cX (aG (lL hr) (aq 2 (pv 2)) (dU ao) (nomark _)) (aA (bz 7 aat.nd rfl (by first | exact Or.inl rfl | exact Or.inr rfl) (by intro h;cases h) (anC (aF 3 (pv 3)) j6 (ji (aM (bO ao (aM (cD D_law_next hr (by decide) tk (by rfl) (fZ 0 (pv 0) (cG (fj (by rfl) z_len (aq 3 (pv 3))) aN)))))))))) bJ)
  (aj (cX (aG (lL hr) (aq 2 (pv 2)) (dU ao) (nomark _)) (aA (bz 7 aat.nd rfl (by first | exact Or.inl rfl | exact Or.inr rfl) (by intro h;cases h) (cD D_law_word hr (by decide) tk (by rfl) (fZ 0 (pv 0) (cG (aM (bO ao (aM (cD D_law_next hr (by decide) tk (by rfl) (fZ 0 (pv 0) (cG ao aN)))))) aN))))) bJ)
  (aA (uZ (oM 5 (pv 5) (aM (cD D_law_unlike hr (by decide) tk (by rfl) (fZ 5 (pv 5) (cG (aF 7 (pv 7)) aN)))))))))))
  (aA (bf (nu 5 (pv 5)))))))))
theorem aaB {f:Addr}{fd:FuncData}(F:Fun K "_law_shown" "_law_shown" eG f fd) (z_isinstance:mg "isinstance"=none) (z_list:mg "list"=none) (z_str:mg "str"=none):FnOk P w K mg base (L2.CX P w) 1 f fd ["_law_deed"] (VSp K ca [false] Lw.lA):=by
 refine j7 (k:=0) F aau rfl (by decide) λ cdv A outer s H E vs hr B=>?_
 have tk:Takes (ctOf P w K mg base ca v4 "_law_shown" (defScope eG) f cdv A outer s H E [false] vs B).X _:=takes_of rfl rfl rfl rfl
 exact(aj (bz 1 aau.nd rfl (by first | exact Or.inl rfl | exact Or.inr rfl) (by intro h;cases h) (jG (cV 0 (pv 0) ao)))
  (aj (bz 2 aau.nd rfl (by first | exact Or.inl rfl | exact Or.inr rfl) (by intro h;cases h) (jG aP))
  (aj (mG PassesOwn.leaving rfl (oN (aM (fG (aq 0 (pv 0)) (ji ao) j6))) (dO 3 (by intro h;cases h) (pg_name (i:=3) aau.nd rfl (by first | exact Or.inl rfl | exact Or.inr rfl))) (aA (cX (uV (oA (T:="list") (by rfl) z_isinstance (by rfl) z_list (by decide +kernel) (aq 3 (pv 3)))) (aj (bz 1 aau.nd rfl (by first | exact Or.inl rfl | exact Or.inr rfl) (by intro h;cases h) (bO (aF 1 (pv 1)) (aF 2 (pv 2))))
  (aj (bz 2 aau.nd rfl (by first | exact Or.inl rfl | exact Or.inr rfl) (by intro h;cases h) (jG aP))
  (aA (mG PassesOwn.leaving rfl (oN (aF 3 (pv 3))) (dO 4 (by intro h;cases h) (pg_name (i:=4) aau.nd rfl (by first | exact Or.inl rfl | exact Or.inr rfl))) (aA (bz 1 aau.nd rfl (by first | exact Or.inl rfl | exact Or.inr rfl) (by intro h;cases h) (bO (aM (bO (aF 1 (pv 1)) aP)) (aF 4 (pv 4))))))))) (aA (bz 1 aau.nd rfl (by first | exact Or.inl rfl | exact Or.inr rfl) (by intro h;cases h) (bO (aM (bO (aF 1 (pv 1)) aP)) (aka (by rfl) z_str (aq 3 (pv 3)))))))))
  (aA (bf (nu 1 (pv 1)))))))
theorem abD {f:Addr}{fd:FuncData}(F:Fun K "_law_form" "_law_form" gK f fd) :FnOk P w K mg base (L2.CX P w) 1 f fd ["_law_word_here"] (VSp K ca [false] Lw.jK):=by
 refine j7 (k:=0) F aby rfl (by decide) λ cdv A outer s H E vs hr B=>?_
 have tk:Takes (ctOf P w K mg base ca xN "_law_form" (defScope gK) f cdv A outer s H E [false] vs B).X _:=takes_of rfl rfl rfl rfl
 exact(aj (bz 1 aby.nd rfl (by first | exact Or.inl rfl | exact Or.inr rfl) (by intro h;cases h) (abW (jP aP aP (jP aP aP (jP aP aP (jP aP aP (jP aP aP (jP aP aP aez)))))) rfl rfl (by simp) (by simp)))
  (aj (bz 2 aby.nd rfl (by first | exact Or.inl rfl | exact Or.inr rfl) (by intro h;cases h) (abW (jP aP aP (jP aP aP (jP aP aP (jP aP aP aez)))) rfl rfl (by simp) (by simp)))
  (aA (bf (jG (abY hr (aeu (pv 1)) (aF 0 (pv 0)) (abY hr (aeu (pv 2)) (aF 0 (pv 0)) jt)))))))
theorem sW {f:Addr}{fd:FuncData}(F:Fun K "_law_read_number" "_law_read_number" bA f fd) (z_len:mg "len"=none) (z_int:mg "int"=none):FnOk P w K mg base (L2.CX P w) 1 f fd ["_law_word_here"] (VSp K ca [false] Lw.fJ):=by
 refine j7 (k:=0) F sU rfl (by decide) λ cdv A outer s H E vs hr B=>?_
 have tk:Takes (ctOf P w K mg base ca nq "_law_read_number" (defScope bA) f cdv A outer s H E [false] vs B).X _:=takes_of rfl rfl rfl rfl
 exact(aj (cX (abI (sY (aG (lL hr) (aq 0 (pv 0)) (dU aP) (nomark _)) (sY (aG aaO (dU (fj (by rfl) z_len (aq 0 (pv 0)))) (dU ao) (nomark _)) (qZ (abI (zu (aG (lL hr) (dU (cV 0 (pv 0) ao)) (dU aP) (nomark _)) (uW (aG (ww hr) (aq 0 (pv 0)) (dU aP) (nomark _))))))))) (aA (bf (jG jt))) bJ)
  (aj (mG PassesOwn.leaving rfl (oN (aF 0 (pv 0))) (dO 1 (by intro h;cases h) (pg_name (i:=1) sU.nd rfl (by first | exact Or.inl rfl | exact Or.inr rfl))) (aA (cX (zA (abI (zu (aG adI (dU aP) (aq 1 (pv 1)) (nomark _)) (uW (aG adI (aq 1 (pv 1)) (dU aP) (nomark _)))))) (aA (bf (jG jt))) bJ)))
  (aA (bf (jG (aeA (by rfl) z_int (aq 0 (pv 0))))))))
theorem uD {f:Addr}{fd:FuncData}(F:Fun K "_law_read_name" "_law_read_name" bT f fd) (z_len:mg "len"=none):FnOk P w K mg base (L2.CX P w) 1 f fd ["_law_word_here"] (VSp K ca [false] Lw.cO):=by
 refine j7 (k:=0) F uB rfl (by decide) λ cdv A outer s H E vs hr B=>?_
 have tk:Takes (ctOf P w K mg base ca pD "_law_read_name" (defScope bT) f cdv A outer s H E [false] vs B).X _:=takes_of rfl rfl rfl rfl
 exact(aj (mG PassesOwn.leaving rfl (oN (aF 0 (pv 0))) (dO 1 (by intro h;cases h) (pg_name (i:=1) uB.nd rfl (by first | exact Or.inl rfl | exact Or.inr rfl))) (aA (cX (zA (abI (zu (aG adI (dU aP) (aq 1 (pv 1)) (nomark _)) (uW (aG adI (aq 1 (pv 1)) (dU aP) (nomark _)))))) (aA (bf (jG jt))) bJ)))
  (aj (cX (abI (sY (aG aaN (dU (fj (by rfl) z_len (aq 0 (pv 0)))) (dU ao) (nomark _)) (qZ (aG aaO (dU (fj (by rfl) z_len (aq 0 (pv 0)))) (dU ao) (nomark _))))) (aA (bf (jG jt))) bJ)
  (aA (bf (nu 0 (pv 0))))))
theorem uE {f:Addr}{fd:FuncData}(F:Fun K "_law_read_part" "_law_read_part" bU f fd) (D_law_read_name:Dx P w K mg base ca "_law_read_name" 1 ["_law_word_here"] [false] Lw.cO) (D_law_read_number:Dx P w K mg base ca "_law_read_number" 1 ["_law_word_here"] [false] Lw.fJ):FnOk P w K mg base (L2.CX P w) 2 f fd ["_law_sign","_law_word_here"] (VSp K ca Q1 Lw.gY):=by
 refine j7 (k:=1) F uC rfl (by decide) λ cdv A outer s H E vs hr B=>?_
 have tk:Takes (ctOf P w K mg base ca pF "_law_read_part" (defScope bU) f cdv A outer s H E Q1 vs B).X _:=takes_of rfl rfl rfl rfl
 exact(aj (cX (aG (lL hr) (aq 0 (pv 0)) (dU aP) (nomark _)) (aA (bf (cD D_law_read_name hr (by decide) tk (by rfl) (cG (aF 1 (pv 1)) aN)))) bJ)
  (aA (bf (cD D_law_read_number hr (by decide) tk (by rfl) (cG (aF 1 (pv 1)) aN)))))
theorem tX {f:Addr}{fd:FuncData}(F:Fun K "_law_read_sides" "_law_read_sides" bj f fd) (D_law_read_name:Dx P w K mg base ca "_law_read_name" 1 ["_law_word_here"] [false] Lw.cO) (z_len:mg "len"=none):FnOk P w K mg base (L2.CX P w) 2 f fd ["_law_words"] (VSp K ca [false] Lw.gj):=by
 refine j7 (k:=1) F tV rfl (by decide) λ cdv A outer s H E vs hr B=>?_
 have tk:Takes (ctOf P w K mg base ca jh "_law_read_sides" (defScope bj) f cdv A outer s H E [false] vs B).X _:=takes_of rfl rfl rfl rfl
 exact(aj (cX (abI (sY (aG aaN (dU (fj (by rfl) z_len (aq 0 (pv 0)))) (dU ao) (nomark _)) (sY (aG (ww hr) (dU (cV 0 (pv 0) ao)) (dU aP) (nomark _)) (qZ (aG (uG hr) (dU aP) (aq 0 (pv 0)) rfl))))) (aA (bf (jG jt))) bJ)
  (aj (bz 1 tV.nd rfl (by first | exact Or.inl rfl | exact Or.inr rfl) (by intro h;cases h) (jG (zR (aq 0 (pv 0)) aP)))
  (aj (xV (own:=[("_law_word_here",4)]) (i:=2) rfl tV.nd rfl rfl (by intro h;cases h) (sw_true rfl rfl rfl (by decide +kernel)) (oN (aM (fG (aq 0 (pv 0)) (ji ao) (ji (aF 1 (pv 1)))))) (blkOk_by (own:=[("_law_word_here",4)]) (N:=jh) (sc:=defScope bj) (by decide +kernel)) (λ _=>(dO 4 (by intro h;cases h) (pg_name (i:=4) tV.nd rfl (by first | exact Or.inl rfl | exact Or.inr rfl)))) (by decide) (by intro k hk;simp only[List.map_cons,List.map_nil,List.mem_cons,List.not_mem_nil,or_false]at hk;rcases hk with rfl<;>(intro h;cases h)) (λ _=>qG) (λ _=>(aM (cD D_law_read_name hr (by decide) takes0 (by rfl) (cG (aF 4 (pv 4)) aN)))))
  (aj (xV (own:=[("_law_word_here",4)]) (i:=3) rfl tV.nd rfl rfl (by intro h;cases h) (sw_true rfl rfl rfl (by decide +kernel)) (oN (aM (fG (aq 0 (pv 0)) (ji (aM (bO (aF 1 (pv 1)) ao))) j6))) (blkOk_by (own:=[("_law_word_here",4)]) (N:=jh) (sc:=defScope bj) (by decide +kernel)) (λ _=>(dO 4 (by intro h;cases h) (pg_name (i:=4) tV.nd rfl (by first | exact Or.inl rfl | exact Or.inr rfl)))) (by decide) (by intro k hk;simp only[List.map_cons,List.map_nil,List.mem_cons,List.not_mem_nil,or_false]at hk;rcases hk with rfl<;>(intro h;cases h)) (λ _=>qG) (λ _=>(aM (cD D_law_read_name hr (by decide) takes0 (by rfl) (cG (aF 4 (pv 4)) aN)))))
  (aj (cX (abI (sY (aG (ai2 hr) (dU jt) (aq 2 (pv 2)) rfl) (qZ (aG (ai2 hr) (dU jt) (aq 3 (pv 3)) rfl)))) (aA (bf (jG jt))) bJ)
  (aA (bf (ju (aH (aF 2 (pv 2)) (aH (aF 3 (pv 3)) d8))))))))))
theorem abE {f:Addr}{fd:FuncData}(F:Fun K "_law_read" "_law_read" fD f fd) (D_law_form:Dx P w K mg base ca "_law_form" 1 ["_law_word_here"] [false] Lw.jK) (D_law_read_part:Dx P w K mg base ca "_law_read_part" 2 ["_law_sign","_law_word_here"] Q1 Lw.gY) (D_law_read_sides:Dx P w K mg base ca "_law_read_sides" 2 ["_law_words"] [false] Lw.gj) (z_len:mg "len"=none) (z_zip:mg "zip"=none) (z_tuple:mg "tuple"=none):FnOk P w K mg base (L2.CX P w) 3 f fd ["_law_text"] (VSp K ca [false] Lw.mU):=by
 refine j7 (k:=2) F abz rfl (by decide) λ cdv A outer s H E vs hr B=>?_
 have tk:Takes (ctOf P w K mg base ca tW "_law_read" (defScope fD) f cdv A outer s H E [false] vs B).X _:=takes_of rfl rfl rfl rfl
 exact(aeE 1 abz.nd rfl (by first | exact Or.inl rfl | exact Or.inr rfl) (by intro h;cases h) (aF 0 (pv 0))
  (abZ (bz 2 abz.nd rfl (by first | exact Or.inl rfl | exact Or.inr rfl) (by intro h;cases h) (cD D_law_form hr (by decide) tk (by rfl) (cG (cV 1 (pv 1) ao) aN)))
  (abZ (cX (aG adJ (aq 2 (pv 2)) (dU jt) (nomark _)) (aA (bf (jG jt))) bJ)
  (akd 3 abz.nd rfl (by first | exact Or.inl rfl | exact Or.inr rfl) (by intro h;cases h) (aF 2 (pv 2))
  (aj (bz 4 abz.nd rfl (by first | exact Or.inl rfl | exact Or.inr rfl) (by intro h;cases h) (fG (aq 1 (pv 1)) (ji (aM (bO ao (fj (by rfl) z_len (aq 3 (pv 3)))))) j6))
  (aj (cX (abI (sY (aG aaN (dU (fj (by rfl) z_len (aq 1 (pv 1)))) (dU (aM (bO ao (fj (by rfl) z_len (aq 3 (pv 3)))))) (nomark _)) (qZ (abI (zu (aG (lL hr) (aq 3 (pv 3)) (aq 2 (pv 2)) (nomark _)) (uW (aG aaO (dU (fj (by rfl) z_len (aq 4 (pv 4)))) (dU ao) (nomark _)))))))) (aA (bf (jG jt))) bJ)
  (aj (xV (own:=[("_law_sign",7),("_law_word_here",8)]) (i:=5) rfl abz.nd rfl rfl (by intro h;cases h) (sw_true rfl rfl rfl (by decide +kernel)) (aeD (by rfl) z_zip (aH (aF 3 (pv 3)) (aH (aM (fG (aq 1 (pv 1)) (ji ao) j6)) d8))) (blkOk_by (own:=[("_law_sign",7),("_law_word_here",8)]) (N:=tW) (sc:=defScope fD) (by decide +kernel)) (λ _=>(adC rfl (pH (dO 7 (by intro h;cases h) (pg_name (i:=7) abz.nd rfl (by first | exact Or.inl rfl | exact Or.inr rfl))) (pH (dO 8 (by intro h;cases h) (pg_name (i:=8) abz.nd rfl (by first | exact Or.inl rfl | exact Or.inr rfl))) aaI)))) (by decide) (by intro k hk;simp only[List.map_cons,List.map_nil,List.mem_cons,List.not_mem_nil,or_false]at hk;rcases hk with rfl | rfl<;>(intro h;cases h)) (λ _=>qG) (λ _=>(aM (cD D_law_read_part hr (by decide) takes0 (by rfl) (cG (aF 7 (pv 7)) (cG (aF 8 (pv 8)) aN))))))
  (aj (cX (aG (ww hr) (aq 3 (pv 3)) (aq 2 (pv 2)) (nomark _)) (aj (bz 6 abz.nd rfl (by first | exact Or.inl rfl | exact Or.inr rfl) (by intro h;cases h) (cD D_law_read_sides hr (by decide) tk (by rfl) (cG (aF 4 (pv 4)) aN)))
  (aj (cX (aG adJ (aq 6 (pv 6)) (dU jt) (nomark _)) (aA (bf (jG jt))) bJ)
  (aA (bz 5 abz.nd rfl (by first | exact Or.inl rfl | exact Or.inr rfl) (by intro h;cases h) (bO (aF 5 (pv 5)) (aF 6 (pv 6))))))) bJ)
  (aj (cX (aG (ai2 hr) (dU jt) (aq 5 (pv 5)) rfl) (aA (bf (jG jt))) bJ)
  (aA (bf (jG (ye (by rfl) z_tuple (dU (aM (bO (aM (ju (aH (cV 1 (pv 1) ao) d8))) (aF 5 (pv 5))))))))))))))))))
theorem adc {f:Addr}{fd:FuncData}(F:Fun K "is_name" "is_name" iQ f fd) (z_len:mg "len"=none) (z_LETTERS:∃ t,mg "LETTERS"=some (.str "abcdefghijklmnopqrstuvwxyz" t)):FnOk P w K mg base (L2.CX P w) 1 f fd ["text"] (VSp K ca [false] Lw.mJ):=by
 refine j7 (k:=0) F ac9 rfl (by decide) λ cdv A outer s H E vs hr B=>?_
 have tk:Takes (ctOf P w K mg base ca aav "is_name" (defScope iQ) f cdv A outer s H E [false] vs B).X _:=takes_of rfl rfl rfl rfl
 exact(aj (cX (abI (sY (aG aaN (dU (fj (by rfl) z_len (aq 0 (pv 0)))) (dU ao) (nomark _)) (qZ (aG aaO (dU (fj (by rfl) z_len (aq 0 (pv 0)))) (dU ao) (nomark _))))) (aA (bf (jG uP))) bJ)
  (aj (mG PassesOwn.leaving rfl (oN (aF 0 (pv 0))) (dO 1 (by intro h;cases h) (pg_name (i:=1) ac9.nd rfl (by first | exact Or.inl rfl | exact Or.inr rfl))) (aA (cX (aG (uG hr) (aq 1 (pv 1)) (dU (alr (by rfl) z_LETTERS)) rfl) (aA (bf (jG uP))) bJ)))
  (aA (bf (jG uP)))))
theorem aaC {f:Addr}{fd:FuncData}(F:Fun K "read_name" "read_name" eO f fd) (D_is_name:Dx P w K mg base ca "is_name" 1 ["text"] [false] Lw.mJ) (R_NoDeed:ExcR K mg (ca 20) "NoDeed"):FnOk P w K mg base (L2.CX P w) 2 f fd ["word"] (VSp K ca [false] Lw.dM):=by
 refine j7 (k:=1) F aaw rfl (by decide) λ cdv A outer s H E vs hr B=>?_
 have tk:Takes (ctOf P w K mg base ca v5 "read_name" (defScope eO) f cdv A outer s H E [false] vs B).X _:=takes_of rfl rfl rfl rfl
 exact(aj (cX (zA (uV (aM (cD D_is_name hr (by decide) tk (by rfl) (cG (aF 0 (pv 0)) aN))))) (aA (mH rfl tk R_NoDeed (by rfl))) bJ)
  (aA (bf (nu 0 (pv 0)))))
theorem zm {f:Addr}{fd:FuncData}(F:Fun K "read_sides" "read_sides" bZ f fd) (D_read_name:Dx P w K mg base ca "read_name" 2 ["word"] [false] Lw.dM) (R_NoDeed:ExcR K mg (ca 20) "NoDeed") (z_len:mg "len"=none):FnOk P w K mg base (L2.CX P w) 3 f fd ["words"] (VSp K ca [false] Lw.ie):=by
 refine j7 (k:=2) F yW rfl (by decide) λ cdv A outer s H E vs hr B=>?_
 have tk:Takes (ctOf P w K mg base ca lV "read_sides" (defScope bZ) f cdv A outer s H E [false] vs B).X _:=takes_of rfl rfl rfl rfl
 exact(aj (cX (abI (sY (aG aaN (dU (fj (by rfl) z_len (aq 0 (pv 0)))) (dU ao) (nomark _)) (sY (aG (ww hr) (dU (cV 0 (pv 0) ao)) (dU aP) (nomark _)) (qZ (aG (ww hr) (dU (aes (aq 0 (pv 0)) aP)) (dU ao) (nomark _)))))) (aA (mH rfl tk R_NoDeed (by rfl))) bJ)
  (aj (bz 1 yW.nd rfl (by first | exact Or.inl rfl | exact Or.inr rfl) (by intro h;cases h) (jG (zR (aq 0 (pv 0)) aP)))
  (aj (zV (own:=[("word",4)]) (i:=2) rfl rfl tk (λ _ _ _ _ _ h=>h) rfl yW.nd rfl rfl (by intro h;cases h) (sw_true rfl rfl rfl (by decide +kernel)) (oN (aM (fG (aq 0 (pv 0)) (ji ao) (ji (aF 1 (pv 1)))))) (blkOk_by (own:=[("word",4)]) (N:=lV) (sc:=defScope bZ) (by decide +kernel)) (λ _=>(dO 4 (by intro h;cases h) (pg_name (i:=4) yW.nd rfl (by first | exact Or.inl rfl | exact Or.inr rfl)))) (by decide) (by intro k hk;simp only[List.map_cons,List.map_nil,List.mem_cons,List.not_mem_nil,or_false]at hk;rcases hk with rfl<;>(intro h;cases h)) (λ _=>qG) (λ _=>(aM (cD D_read_name hr (by decide) zU (by rfl) (cG (aF 4 (pv 4)) aN)))))
  (aj (zV (own:=[("word",4)]) (i:=3) rfl rfl tk (λ _ _ _ _ _ h=>h) rfl yW.nd rfl rfl (by intro h;cases h) (sw_true rfl rfl rfl (by decide +kernel)) (oN (aM (fG (aq 0 (pv 0)) (ji (aM (bO (aF 1 (pv 1)) ao))) j6))) (blkOk_by (own:=[("word",4)]) (N:=lV) (sc:=defScope bZ) (by decide +kernel)) (λ _=>(dO 4 (by intro h;cases h) (pg_name (i:=4) yW.nd rfl (by first | exact Or.inl rfl | exact Or.inr rfl)))) (by decide) (by intro k hk;simp only[List.map_cons,List.map_nil,List.mem_cons,List.not_mem_nil,or_false]at hk;rcases hk with rfl<;>(intro h;cases h)) (λ _=>qG) (λ _=>(aM (cD D_read_name hr (by decide) zU (by rfl) (cG (aF 4 (pv 4)) aN)))))
  (aA (bf (ju (aH (aF 2 (pv 2)) (aH (aF 3 (pv 3)) d8)))))))))
theorem wG {f:Addr}{fd:FuncData}(F:Fun K "read_number" "read_number" cI f fd) (R_NoDeed:ExcR K mg (ca 20) "NoDeed") (z_len:mg "len"=none) (z_int:mg "int"=none) (z_FIGURES:∃ t,mg "FIGURES"=some (.str "0123456789" t)):FnOk P w K mg base (L2.CX P w) 1 f fd ["word"] (VSp K ca [false] Lw.gq):=by
 refine j7 (k:=0) F wF rfl (by decide) λ cdv A outer s H E vs hr B=>?_
 have tk:Takes (ctOf P w K mg base ca sV "read_number" (defScope cI) f cdv A outer s H E [false] vs B).X _:=takes_of rfl rfl rfl rfl
 exact(aj (cX (abI (sY (aG aaN (dU (fj (by rfl) z_len (aq 0 (pv 0)))) (dU ao) (nomark _)) (sY (aG aaO (dU (fj (by rfl) z_len (aq 0 (pv 0)))) (dU ao) (nomark _)) (qZ (abI (zu (aG (lL hr) (dU (cV 0 (pv 0) ao)) (dU aP) (nomark _)) (uW (aG aaO (dU (fj (by rfl) z_len (aq 0 (pv 0)))) (dU ao) (nomark _))))))))) (aA (mH rfl tk R_NoDeed (by rfl))) bJ)
  (aj (mG PassesOwn.leaving rfl (oN (aF 0 (pv 0))) (dO 1 (by intro h;cases h) (pg_name (i:=1) wF.nd rfl (by first | exact Or.inl rfl | exact Or.inr rfl))) (aA (cX (aG (uG hr) (aq 1 (pv 1)) (dU (alr (by rfl) z_FIGURES)) rfl) (aA (mH rfl tk R_NoDeed (by rfl))) bJ)))
  (aA (bf (jG (aeA (by rfl) z_int (aq 0 (pv 0))))))))
theorem zp {f:Addr}{fd:FuncData}(F:Fun K "read_words" "read_words" dH f fd) (D_read_name:Dx P w K mg base ca "read_name" 2 ["word"] [false] Lw.dM) (D_read_number:Dx P w K mg base ca "read_number" 1 ["word"] [false] Lw.gq) (R_NoDeed:ExcR K mg (ca 20) "NoDeed") (z_len:mg "len"=none) (z_zip:mg "zip"=none):FnOk P w K mg base (L2.CX P w) 3 f fd ["words","form"] (VSp K ca Q1 Lw.fK):=by
 refine j7 (k:=2) F yX rfl (by decide) λ cdv A outer s H E vs hr B=>?_
 have tk:Takes (ctOf P w K mg base ca uo "read_words" (defScope dH) f cdv A outer s H E Q1 vs B).X _:=takes_of rfl rfl rfl rfl
 exact(aj (cX (aG (ww hr) (dU (fj (by rfl) z_len (aq 0 (pv 0)))) (dU (fj (by rfl) z_len (aq 1 (pv 1)))) (nomark _)) (aA (mH rfl tk R_NoDeed (by rfl))) bJ)
  (aj (bz 2 yX.nd rfl (by first | exact Or.inl rfl | exact Or.inr rfl) (by intro h;cases h) (ju d8))
  (aj (mG PassesOwn.leaving rfl (aeD (by rfl) z_zip (aH (aF 0 (pv 0)) (aH (aF 1 (pv 1)) d8))) (adC rfl (pH (dO 3 (by intro h;cases h) (pg_name (i:=3) yX.nd rfl (by first | exact Or.inl rfl | exact Or.inr rfl))) (pH (dO 4 (by intro h;cases h) (pg_name (i:=4) yX.nd rfl (by first | exact Or.inl rfl | exact Or.inr rfl))) aaI))) (aA (cX (aG (lL hr) (aq 4 (pv 4)) (dU aP) (nomark _)) (aA (uZ (oM 2 (pv 2) (aM (cD D_read_name hr (by decide) tk (by rfl) (cG (aF 3 (pv 3)) aN)))))) (aA (uZ (oM 2 (pv 2) (aM (cD D_read_number hr (by decide) tk (by rfl) (cG (aF 3 (pv 3)) aN)))))))))
  (aA (bf (nu 2 (pv 2)))))))
theorem aaD {f:Addr}{fd:FuncData}(F:Fun K "read_deed" "read_deed" eQ f fd) (D_read_words:Dx P w K mg base ca "read_words" 3 ["words","form"] Q1 Lw.fK) (D_read_sides:Dx P w K mg base ca "read_sides" 3 ["words"] [false] Lw.ie) (R_NoDeed:ExcR K mg (ca 20) "NoDeed") (z_tuple:mg "tuple"=none) (z_len:mg "len"=none) (z_FORMS:∃ t,mg "FORMS"=some (.ref t)/\KTab K w t [("come","abb"),("rise","abb"),("die","aba"),("penance","a"),("bring","ab"),("give","baab"),("pay","aabb"),("claim","abbb"),("wergild","aabbb"),("accuse","babb")]) (z_CASES:∃ t,mg "CASES"=some (.ref t)/\KTx K t ["claim","wergild","accuse"]):FnOk P w K mg base (L2.CX P w) 4 f fd ["text"] (VSp K ca [false] Lw.iU):=by
 refine j7 (k:=3) F aax rfl (by decide) λ cdv A outer s H E vs hr B=>?_
 have tk:Takes (ctOf P w K mg base ca v7 "read_deed" (defScope eQ) f cdv A outer s H E [false] vs B).X _:=takes_of rfl rfl rfl rfl
 exact(aj (bz 1 aax.nd rfl (by first | exact Or.inl rfl | exact Or.inr rfl) (by intro h;cases h) (abX (aF 0 (pv 0)) aP))
  (aj (cX (aeC (by rfl) z_FORMS (cV 1 (pv 1) ao)) (aA (mH rfl tk R_NoDeed (by rfl))) bJ)
  (aj (bz 2 aax.nd rfl (by first | exact Or.inl rfl | exact Or.inr rfl) (by intro h;cases h) (jG (amx (by rfl) z_FORMS (cV 1 (pv 1) ao))))
  (aj (cX (aex (zs:=["claim","wergild","accuse"]) (by rfl) z_CASES (dU (cV 1 (pv 1) ao))) (aA (bf (jG (ye (by rfl) z_tuple (dU (aM (bO (aM (ju (aH (cV 1 (pv 1) ao) d8))) (aM (cD D_read_words hr (by decide) tk (by rfl) (cG (aM (fG (aq 1 (pv 1)) (ji ao) j6)) (cG (aF 2 (pv 2)) aN))))))))))) bJ)
  (aj (bz 3 aax.nd rfl (by first | exact Or.inl rfl | exact Or.inr rfl) (by intro h;cases h) (bO ao (fj (by rfl) z_len (aq 2 (pv 2)))))
  (aA (bf (jG (ye (by rfl) z_tuple (dU (aM (bO (aM (bO (aM (ju (aH (cV 1 (pv 1) ao) d8))) (aM (cD D_read_words hr (by decide) tk (by rfl) (cG (aM (fG (aq 1 (pv 1)) (ji ao) (ji (aF 3 (pv 3))))) (cG (aF 2 (pv 2)) aN)))))) (aM (cD D_read_sides hr (by decide) tk (by rfl) (cG (aM (fG (aq 1 (pv 1)) (ji (aF 3 (pv 3))) j6)) aN)))))))))))))))
theorem aaE {f:Addr}{fd:FuncData}(F:Fun K "_law_found" "_law_found" eU f fd) (D_read_deed:Dx P w K mg base ca "read_deed" 4 ["text"] [false] Lw.iU) (gM_MootError:mg "MootError"=some (.ref (ca 1))) (gM_NoDeed:mg "NoDeed"=some (.ref (ca 20))) (hcat_:∀ k∈([20]:List Nat),W.exmOne K (.ref (ca k)) (.ref (ca 1))=some true) (hE_:∀ k∈([20]:List Nat),ExcC K (ca k)) (hI_NoDeed:∀ k∈([20]:List Nat),W.kitOne K (.ref (ca k)) (.ref (ca 20))=some (decide (k=20))) (hI_ValueError:∀ k∈([20]:List Nat),W.kitOne K (.ref (ca k)) (.type "ValueError")=some true) (z_isinstance:mg "isinstance"=none) (z_ValueError:mg "ValueError"=none):FnOk P w K mg base (L2.CX P w) 5 f fd ["_law_text"] (VSg K ca [] 1 [false] Lw.jL):=by
 refine aoo (obs:=[]) (md:=[false]) (k:=4) F aay (by decide) (by decide) (amq (by decide +kernel)) λ cdv A outer s H E ws hr B hwl hob=>?_
 have tk:Takes (ctOf P w K mg base ca v8 "_law_found" (defScope eU) f cdv A outer s H E [false] ws B).X _:=takes_of rfl rfl rfl rfl
 have hv:=aoq hwl
 exact(aj (bz 1 aay.nd rfl (by first | exact Or.inl rfl | exact Or.inr rfl) (by intro h;cases h) (ju (aH aP (aH jt d8))))
  (aj (ams (i:=2) (ks:=[20]) (gs:=λ k_=>(gAsg 1 (gLst (gCons (gC (.str "refused")) (gCons (gAndV (gC (.bool (decide (k_=20)))) (gC (.bool true))) gNil))))) [false,false,true] rfl rfl aay.nd rfl (by rfl) tk (by rfl) gM_MootError hcat_ hv (aaU rfl) (aj3 rfl) rfl (by intro h;cases h) (λ W_ pn_ xe_ tk pxn_=>(aA (bz 1 aay.nd rfl (by first | exact Or.inl rfl | exact Or.inr rfl) (by intro h;cases h) (ju (aH aP (aH (aM (cD D_read_deed hr (by decide) tk (by rfl) (cG (aF 0 (pv 0)) aN))) d8)))))) (λ k_ hk_ a_ oe_ pn_ ws_ hv S_=>(aA (bz 1 aay.nd rfl (by first | exact Or.inl rfl | exact Or.inr rfl) (by intro h;cases h) (ju (aH aP (aH (zE (amt S_ (hE_ k_ hk_) (by rfl) z_isinstance (pv 2) (by rfl) gM_NoDeed (hI_NoDeed k_ hk_)) (zB (aj4 (T:="ValueError") S_ (hE_ k_ hk_) (by rfl) z_isinstance (pv 2) (by rfl) z_ValueError (by decide +kernel) (hI_ValueError k_ hk_)))) d8)))))))
  (aA (bf (nu 1 (pv 1))))))
theorem zq {f:Addr}{fd:FuncData}(F:Fun K "_law_number" "_law_number" dI f fd) (D_law_next:Dx P w K mg base ca "_law_next" 1 Q3 Q0 Lw.az):FnOk P w K mg base (L2.CX P w) 2 f fd ["_law_src_here"] (VSp K ca [true] Lw.ig):=by
 refine j7 (k:=1) F yZ rfl (by decide) λ cdv A outer s H E vs hr B=>?_
 have tk:Takes (ctOf P w K mg base ca uv "_law_number" (defScope dI) f cdv A outer s H E [true] vs B).X _:=takes_of rfl rfl rfl rfl
 exact(aj (bz 1 yZ.nd rfl (by first | exact Or.inl rfl | exact Or.inr rfl) (by intro h;cases h) (cD D_law_next hr (by decide) tk (by rfl) (fZ 0 (pv 0) (cG ao aN))))
  (aj (cX (aG (lL hr) (aq 1 (pv 1)) (dU ao) (nomark _)) (aA (bf (jG (agg (aM (ju (aH ao (aH ao (aH ao (aH ao (aH ao (aH ao d8)))))))) (aM (cD D_law_next hr (by decide) tk (by rfl) (fZ 0 (pv 0) (cG ao aN)))))))) bJ)
  (aj (cX (aG (lL hr) (aq 1 (pv 1)) (dU ao) (nomark _)) (aA (bf (cD D_law_next hr (by decide) tk (by rfl) (fZ 0 (pv 0) (cG ao aN))))) bJ)
  (aA (bf (cD D_law_next hr (by decide) tk (by rfl) (fZ 0 (pv 0) (cG ao aN))))))))
theorem ade {f:Addr}{fd:FuncData}(F:Fun K "_law_row" "_law_row" gU f fd) (D_law_next:Dx P w K mg base ca "_law_next" 1 Q3 Q0 Lw.az) (z_range:mg "range"=none) (z_len:mg "len"=none):FnOk P w K mg base (L2.CX P w) 2 f fd Q4 (VSp K ca Q2 Lw.mV):=by
 refine j7 (k:=1) F ada rfl (by decide) λ cdv A outer s H E vs hr B=>?_
 have tk:Takes (ctOf P w K mg base ca v9 "_law_row" (defScope gU) f cdv A outer s H E Q2 vs B).X _:=takes_of rfl rfl rfl rfl
 exact(aA (bf (alo (own:=[("_law_k",2)]) rfl ada.nd (mF (by rfl) z_range (aH (aM (cD D_law_next hr (by decide) tk (by rfl) (fZ 0 (pv 0) (cG (agg (aM (ju (aH ao (aH ao (aH ao (aH ao d8)))))) (aM (cD D_law_next hr (by decide) tk (by rfl) (fZ 0 (pv 0) (cG ao aN))))) aN)))) d8)) (blkOk_by (own:=[("_law_k",2)]) (N:=v9) (sc:=defScope gU) (by decide +kernel)) (λ _=>(dO 2 (by intro h;cases h) (pg_name (i:=2) ada.nd rfl (by first | exact Or.inl rfl | exact Or.inr rfl)))) (by decide) (by intro k hk;simp only[List.map_cons,List.map_nil,List.mem_cons,List.not_mem_nil,or_false]at hk;rcases hk with rfl<;>(intro h;cases h)) (λ _=>qG) (λ _=>(cV 1 (pv 1) (aM (cD D_law_next hr (by decide) takes0 (by rfl) (fZ 0 (pv 0) (cG (fj (by rfl) z_len (aq 1 (pv 1))) aN)))))))))
theorem wk {f:Addr}{fd:FuncData}(F:Fun K "_law_any_deed" "_law_any_deed" bY f fd) (D_law_next:Dx P w K mg base ca "_law_next" 1 Q3 Q0 Lw.az) (D_law_form:Dx P w K mg base ca "_law_form" 1 ["_law_word_here"] [false] Lw.jK) (D_law_number:Dx P w K mg base ca "_law_number" 2 ["_law_src_here"] [true] Lw.ig) (D_law_row:Dx P w K mg base ca "_law_row" 2 Q4 Q2 Lw.mV) (z_len:mg "len"=none) (z_tuple:mg "tuple"=none):FnOk P w K mg base (L2.CX P w) 3 f fd Q4 (VSp K ca Q2 Lw.iV):=by
 refine j7 (k:=2) F wg rfl (by decide) λ cdv A outer s H E vs hr B=>?_
 have tk:Takes (ctOf P w K mg base ca qC "_law_any_deed" (defScope bY) f cdv A outer s H E Q2 vs B).X _:=takes_of rfl rfl rfl rfl
 exact(aj (bz 2 wg.nd rfl (by first | exact Or.inl rfl | exact Or.inr rfl) (by intro h;cases h) (ju (aH aP (aH aP (aH aP (aH aP (aH aP (aH aP (aH aP (aH aP (aH aP (aH aP d8))))))))))))
  (aj (bz 3 wg.nd rfl (by first | exact Or.inl rfl | exact Or.inr rfl) (by intro h;cases h) (jG (cV 2 (pv 2) (aM (cD D_law_next hr (by decide) tk (by rfl) (fZ 0 (pv 0) (cG ao aN)))))))
  (aj (bz 4 wg.nd rfl (by first | exact Or.inl rfl | exact Or.inr rfl) (by intro h;cases h) (ju (aH (aF 3 (pv 3)) d8)))
  (aj (mG PassesOwn.leaving rfl (oN (aM (cD D_law_form hr (by decide) tk (by rfl) (cG (aF 3 (pv 3)) aN)))) (dO 5 (by intro h;cases h) (pg_name (i:=5) wg.nd rfl (by first | exact Or.inl rfl | exact Or.inr rfl))) (aA (cX (aG (lL hr) (aq 5 (pv 5)) (dU aP) (nomark _)) (aA (uZ (oM 4 (pv 4) (cV 1 (pv 1) (aM (cD D_law_next hr (by decide) tk (by rfl) (fZ 0 (pv 0) (cG (fj (by rfl) z_len (aq 1 (pv 1))) aN)))))))) (aA (cX (aG (lL hr) (aq 5 (pv 5)) (dU aP) (nomark _)) (aA (uZ (oM 4 (pv 4) (aM (cD D_law_number hr (by decide) tk (by rfl) (fZ 0 (pv 0) aN)))))) (aA (bz 4 wg.nd rfl (by first | exact Or.inl rfl | exact Or.inr rfl) (by intro h;cases h) (bO (aF 4 (pv 4)) (aM (ju (aH (aM (cD D_law_row hr (by decide) tk (by rfl) (fZ 0 (pv 0) (fZ 1 (pv 1) aN)))) (aH (aM (cD D_law_row hr (by decide) tk (by rfl) (fZ 0 (pv 0) (fZ 1 (pv 1) aN)))) d8))))))))))))
  (aA (bf (jG (ye (by rfl) z_tuple (aq 4 (pv 4))))))))))
theorem zr {f:Addr}{fd:FuncData}(F:Fun K "_law_spoilt" "_law_spoilt" dJ f fd) (D_law_next:Dx P w K mg base ca "_law_next" 1 Q3 Q0 Lw.az) (z_len:mg "len"=none):FnOk P w K mg base (L2.CX P w) 2 f fd ["_law_src_here","_law_text"] (VSp K ca Q2 Lw.jV):=by
 refine j7 (k:=1) F zg rfl (by decide) λ cdv A outer s H E vs hr B=>?_
 have tk:Takes (ctOf P w K mg base ca uw "_law_spoilt" (defScope dJ) f cdv A outer s H E Q2 vs B).X _:=takes_of rfl rfl rfl rfl
 exact(aj (bz 2 zg.nd rfl (by first | exact Or.inl rfl | exact Or.inr rfl) (by intro h;cases h) (jG aP))
  (aj (bz 3 zg.nd rfl (by first | exact Or.inl rfl | exact Or.inr rfl) (by intro h;cases h) (cD D_law_next hr (by decide) tk (by rfl) (fZ 0 (pv 0) (cG ao aN))))
  (aj (bz 4 zg.nd rfl (by first | exact Or.inl rfl | exact Or.inr rfl) (by intro h;cases h) (cD D_law_next hr (by decide) tk (by rfl) (fZ 0 (pv 0) (cG (aM (bO (fj (by rfl) z_len (aq 1 (pv 1))) ao)) aN))))
  (aj (bz 5 zg.nd rfl (by first | exact Or.inl rfl | exact Or.inr rfl) (by intro h;cases h) (jG (cV 2 (pv 2) (aM (cD D_law_next hr (by decide) tk (by rfl) (fZ 0 (pv 0) (cG (fj (by rfl) z_len (aq 2 (pv 2))) aN)))))))
  (aj (cX (aG (lL hr) (dU (aM (cD D_law_next hr (by decide) tk (by rfl) (fZ 0 (pv 0) (cG ao aN))))) (dU ao) (nomark _)) (aA (bz 5 zg.nd rfl (by first | exact Or.inl rfl | exact Or.inr rfl) (by intro h;cases h) (jG (agg aP (aM (cD D_law_next hr (by decide) tk (by rfl) (fZ 0 (pv 0) (cG ao aN)))))))) bJ)
  (aj (bz 6 zg.nd rfl (by first | exact Or.inl rfl | exact Or.inr rfl) (by intro h;cases h) (abX (aF 1 (pv 1)) aP))
  (aj (bz 7 zg.nd rfl (by first | exact Or.inl rfl | exact Or.inr rfl) (by intro h;cases h) (cD D_law_next hr (by decide) tk (by rfl) (fZ 0 (pv 0) (cG (fj (by rfl) z_len (aq 6 (pv 6))) aN))))
  (aj (cX (aG (lL hr) (aq 3 (pv 3)) (dU ao) (nomark _)) (aA (bf (bO (aM (bO (aM (fG (aq 1 (pv 1)) j6 (ji (aF 4 (pv 4))))) (aF 5 (pv 5)))) (aM (fG (aq 1 (pv 1)) (ji (aF 4 (pv 4))) j6))))) bJ)
  (aj (cX (aG (lL hr) (aq 3 (pv 3)) (dU ao) (nomark _)) (aA (bf (bO (aM (fG (aq 1 (pv 1)) j6 (ji (aF 4 (pv 4))))) (aM (fG (aq 1 (pv 1)) (ji (aM (bO (aF 4 (pv 4)) ao))) j6))))) bJ)
  (aj (cX (aG (lL hr) (aq 3 (pv 3)) (dU ao) (nomark _)) (aA (bf (bO (aM (bO (aM (fG (aq 1 (pv 1)) j6 (ji (aF 4 (pv 4))))) (aF 5 (pv 5)))) (aM (fG (aq 1 (pv 1)) (ji (aM (bO (aF 4 (pv 4)) ao))) j6))))) bJ)
  (aj (cX (aG (lL hr) (aq 3 (pv 3)) (dU ao) (nomark _)) (aA (bf (jG (xR aP (dU (aM (bO (aM (fG (aq 6 (pv 6)) j6 (ji (aF 7 (pv 7))))) (aM (fG (aq 6 (pv 6)) (ji (aM (bO (aF 7 (pv 7)) ao))) j6))))))))) bJ)
  (aj (cX (aG (lL hr) (aq 3 (pv 3)) (dU ao) (nomark _)) (aA (bf (jG (xR aP (dU (aM (bO (aM (bO (aM (fG (aq 6 (pv 6)) j6 (ji (aF 7 (pv 7))))) (aM (ju (aH (cV 6 (pv 6) (aF 7 (pv 7))) d8))))) (aM (fG (aq 6 (pv 6)) (ji (aF 7 (pv 7))) j6))))))))) bJ)
  (aj (cX (aG (lL hr) (aq 3 (pv 3)) (dU ao) (nomark _)) (aA (bf (jG (xR aP (dU (aM (bO (aM (bO (aM (fG (aq 6 (pv 6)) j6 (ji (aF 7 (pv 7))))) (aM (fG (aq 6 (pv 6)) (ji (aM (bO (aF 7 (pv 7)) ao))) j6)))) (aM (ju (aH (cV 6 (pv 6) (aF 7 (pv 7))) d8)))))))))) bJ)
  (aA (bf (fG (aq 1 (pv 1)) j6 (ji (aF 4 (pv 4)))))))))))))))))))
theorem aaF {f:Addr}{fd:FuncData}(F:Fun K "_law_whole" "_law_whole" eV f fd) (z_isinstance:mg "isinstance"=none) (z_int:mg "int"=none) (z_bool:mg "bool"=none):FnOk P w K mg base (L2.CX P w) 1 f fd ["_law_found_here"] (VSp K ca [false] Lw.jk):=by
 refine j7 (k:=0) F aaz rfl (by decide) λ cdv A outer s H E vs hr B=>?_
 have tk:Takes (ctOf P w K mg base ca wj "_law_whole" (defScope eV) f cdv A outer s H E [false] vs B).X _:=takes_of rfl rfl rfl rfl
 exact(aA (bf (jG (zE (oA (T:="int") (by rfl) z_isinstance (by rfl) z_int (by decide +kernel) (aq 0 (pv 0))) (zB (alm (oA (T:="bool") (by rfl) z_isinstance (by rfl) z_bool (by decide +kernel) (aq 0 (pv 0)))))))))
theorem wu {f:Addr}{fd:FuncData}(F:Fun K "_law_same" "_law_same" gM f fd) (D_law_whole:Dx P w K mg base ca "_law_whole" 1 ["_law_found_here"] [false] Lw.jk) (z_isinstance:mg "isinstance"=none) (z_bool:mg "bool"=none) (z_int:mg "int"=none) (z_str:mg "str"=none) (z_list:mg "list"=none) (z_tuple:mg "tuple"=none) (z_len:mg "len"=none) (z_zip:mg "zip"=none) (hg:mg "_law_same"=some (.ref f)) (hk:W.keepIn K (.ref f)=true) (hb:Binds K fd Q6 []):∀ k_:Nat,Dx P w K mg base ca "_law_same" (2+k_) Q6 Q1 (Lw.iG k_)
 | 0=>aha hg hk hb
 | k_+1=>by
  have D_law_same:=wu F D_law_whole z_isinstance z_bool z_int z_str z_list z_tuple z_len z_zip hg hk hb k_
  refine kE (j7 (k:=2+k_) F abA rfl (by decide) λ cdv A outer s H E vs hr B=>?_) hg hk hb
  have tk:Takes (ctOf P w K mg base ca xO "_law_same" (defScope gM) f cdv A outer s H E Q1 vs B).X _:=takes_of rfl rfl rfl rfl
  exact(aj (cX (aG adJ (aq 1 (pv 1)) (dU jt) (nomark _)) (aA (bf (jG (xW adJ (aq 0 (pv 0)) (dU jt) (nomark _))))) bJ)
  (aj (cX (uV (oA (T:="bool") (by rfl) z_isinstance (by rfl) z_bool (by decide +kernel) (aq 1 (pv 1)))) (aA (bf (jG (zE (oA (T:="bool") (by rfl) z_isinstance (by rfl) z_bool (by decide +kernel) (aq 0 (pv 0))) (zB (xW (lL hr) (aq 0 (pv 0)) (aq 1 (pv 1)) (nomark _))))))) bJ)
  (aj (cX (uV (oA (T:="int") (by rfl) z_isinstance (by rfl) z_int (by decide +kernel) (aq 1 (pv 1)))) (aA (bf (jG (zE (aM (cD D_law_whole hr (by omega) tk (by rfl) (cG (aF 0 (pv 0)) aN))) (zB (xW (lL hr) (aq 0 (pv 0)) (aq 1 (pv 1)) (nomark _))))))) bJ)
  (aj (cX (uV (oA (T:="str") (by rfl) z_isinstance (by rfl) z_str (by decide +kernel) (aq 1 (pv 1)))) (aA (bf (jG (zE (oA (T:="str") (by rfl) z_isinstance (by rfl) z_str (by decide +kernel) (aq 0 (pv 0))) (zB (xW (lL hr) (aq 0 (pv 0)) (aq 1 (pv 1)) (nomark _))))))) bJ)
  (aj (cX (abI (sY (aG (ww hr) (dU (oA (T:="list") (by rfl) z_isinstance (by rfl) z_list (by decide +kernel) (aq 1 (pv 1)))) (dU (oA (T:="list") (by rfl) z_isinstance (by rfl) z_list (by decide +kernel) (aq 0 (pv 0)))) (nomark _)) (qZ (aG (ww hr) (dU (oA (T:="tuple") (by rfl) z_isinstance (by rfl) z_tuple (by decide +kernel) (aq 1 (pv 1)))) (dU (oA (T:="tuple") (by rfl) z_isinstance (by rfl) z_tuple (by decide +kernel) (aq 0 (pv 0)))) (nomark _))))) (aA (bf (jG uP))) bJ)
  (aj (cX (aG (ww hr) (dU (fj (by rfl) z_len (aq 0 (pv 0)))) (dU (fj (by rfl) z_len (aq 1 (pv 1)))) (nomark _)) (aA (bf (jG uP))) bJ)
  (aj (mG PassesOwn.leaving rfl (amb (by rfl) z_zip (aH (aF 0 (pv 0)) (aH (aF 1 (pv 1)) d8))) (adC rfl (pH (dO 2 (by intro h;cases h) (pg_name (i:=2) abA.nd rfl (by first | exact Or.inl rfl | exact Or.inr rfl))) (pH (dO 3 (by intro h;cases h) (pg_name (i:=3) abA.nd rfl (by first | exact Or.inl rfl | exact Or.inr rfl))) aaI))) (aA (cX (zA (uV (aM (cD D_law_same hr (by omega) tk (by rfl) (cG (aF 2 (pv 2)) (cG (aF 3 (pv 3)) aN)))))) (aA (bf (jG uP))) bJ)))
  (aA (bf (jG uP))))))))))
theorem anl {f:Addr}{fd:FuncData}(F:Fun K "law" "law" sX f fd) (D_law_src:Dx P w K mg base ca "_law_src" 1 ["_law_script"] [true] Lw.mK) (D_law_names:Dx P w K mg base ca "_law_names" 3 Q5 Q0 Lw.jj) (D_law_next:Dx P w K mg base ca "_law_next" 1 Q3 Q0 Lw.az) (D_law_shown:Dx P w K mg base ca "_law_shown" 1 ["_law_deed"] [false] Lw.lA) (D_law_any_deed:Dx P w K mg base ca "_law_any_deed" 3 Q4 Q2 Lw.iV) (D_law_spoilt:Dx P w K mg base ca "_law_spoilt" 2 ["_law_src_here","_law_text"] Q2 Lw.jV) (D_law_read:Dx P w K mg base ca "_law_read" 3 ["_law_text"] [false] Lw.mU) (D_law_found:DxG P w K mg base ca "_law_found" 5 ["_law_text"] [] [false] Lw.jL) (D_law_same:Dx P w K mg base ca "_law_same" 14 Q6 Q1 (Lw.iG 12)) (z_range:mg "range"=none):FnOk P w K mg base (L2.CX P w) 15 f fd ["_law_script"] (VSp K ca [true] Lw.jx):=by
 refine j7 (k:=14) F ank rfl (by decide) λ cdv A outer s H E vs hr B=>?_
 have tk:Takes (ctOf P w K mg base ca anj "law" (defScope sX) f cdv A outer s H E [true] vs B).X _:=takes_of rfl rfl rfl rfl
 exact(aj (bz 1 ank.nd rfl (by first | exact Or.inl rfl | exact Or.inr rfl) (by intro h;cases h) (cD D_law_src hr (by decide) tk (by rfl) (fZ 0 (pv 0) aN)))
  (aj (bz 2 ank.nd rfl (by first | exact Or.inl rfl | exact Or.inr rfl) (by intro h;cases h) (jG (aM (cD D_law_names hr (by decide) tk (by rfl) (fZ 1 (pv 1) (cG (aM (bO ao (aM (cD D_law_next hr (by decide) tk (by rfl) (fZ 1 (pv 1) (cG ao aN)))))) aN))))))
  (aj (mG PassesOwn.leaving rfl (mF (by rfl) z_range (aH ao d8)) (dO 3 (by intro h;cases h) (pg_name (i:=3) ank.nd rfl (by first | exact Or.inl rfl | exact Or.inr rfl))) (aj (bz 4 ank.nd rfl (by first | exact Or.inl rfl | exact Or.inr rfl) (by intro h;cases h) (jG (aM (cD D_law_shown hr (by decide) tk (by rfl) (cG (aM (cD D_law_any_deed hr (by decide) tk (by rfl) (fZ 1 (pv 1) (fZ 2 (pv 2) aN)))) aN)))))
  (aj (mG PassesOwn.leaving rfl (mF (by rfl) z_range (aH (aM (cD D_law_next hr (by decide) tk (by rfl) (fZ 1 (pv 1) (cG ao aN)))) d8)) (dO 5 (by intro h;cases h) (pg_name (i:=5) ank.nd rfl (by first | exact Or.inl rfl | exact Or.inr rfl))) (aA (bz 4 ank.nd rfl (by first | exact Or.inl rfl | exact Or.inr rfl) (by intro h;cases h) (jG (aM (cD D_law_spoilt hr (by decide) tk (by rfl) (fZ 1 (pv 1) (fZ 4 (pv 4) aN))))))))
  (aj (bz 6 ank.nd rfl (by first | exact Or.inl rfl | exact Or.inr rfl) (by intro h;cases h) (jG (aM (cD D_law_read hr (by decide) tk (by rfl) (cG (aF 4 (pv 4)) aN)))))
  (aj (bz 7 ank.nd rfl (by first | exact Or.inl rfl | exact Or.inr rfl) (by intro h;cases h) (jG (aM (amr D_law_found hr (by decide) tk (by rfl) (aop (aF 4 (pv 4)) aj1) acI))))
  (aA (cX (aG adJ (aq 6 (pv 6)) (dU jt) (nomark _)) (aA (cX (aG (ww hr) (aq 7 (pv 7)) (dU (aM (ju (aH aP (aH uP d8))))) (nomark _)) (aA (bf (jG uP))) bJ)) (aA (cX (zA (uV (aM (cD D_law_same hr (by decide) tk (by rfl) (cG (aF 7 (pv 7)) (cG (aM (ju (aH aP (aH (aF 6 (pv 6)) d8)))) aN)))))) (aA (bf (jG uP))) bJ)))))))))
  (aA (bf (jG uP))))))
end
theorem aik {l:W.OpenLaw}{w:World}{K:W.Frag}{h:Heap}{mg:Str->Option Value}{fa:Addr}(X:K.In h)(G:h.Ns mainGlobals mg)(hfa:mg "law"=some (.ref fa))
  {C_MootError:Addr}
  {C_NoDeed:Addr}
  {f0:Addr} {od0 an0:Option Addr} {sl0:Array (Option Value)} {oc0 kV0 dc0 pm0 cd0 ct0:Value}
  {f1:Addr} {od1 an1:Option Addr} {sl1:Array (Option Value)} {oc1 kV1 dc1 pm1 cd1 ct1:Value}
  {f2:Addr} {od2 an2:Option Addr} {sl2:Array (Option Value)} {oc2 kV2 dc2 pm2 cd2 ct2:Value}
  {f3:Addr} {od3 an3:Option Addr} {sl3:Array (Option Value)} {oc3 kV3 dc3 pm3 cd3 ct3:Value}
  {f4:Addr} {od4 an4:Option Addr} {sl4:Array (Option Value)} {oc4 kV4 dc4 pm4 cd4 ct4:Value}
  {f5:Addr} {od5 an5:Option Addr} {sl5:Array (Option Value)} {oc5 kV5 dc5 pm5 cd5 ct5:Value}
  {f6:Addr} {od6 an6:Option Addr} {sl6:Array (Option Value)} {oc6 kV6 dc6 pm6 cd6 ct6:Value}
  {f7:Addr} {od7 an7:Option Addr} {sl7:Array (Option Value)} {oc7 kV7 dc7 pm7 cd7 ct7:Value}
  {f8:Addr} {od8 an8:Option Addr} {sl8:Array (Option Value)} {oc8 kV8 dc8 pm8 cd8 ct8:Value}
  {f9:Addr} {od9 an9:Option Addr} {sl9:Array (Option Value)} {oc9 kV9 dc9 pm9 cd9 ct9:Value}
  {f10:Addr} {od10 an10:Option Addr} {sl10:Array (Option Value)} {oc10 kV10 dc10 pm10 cd10 ct10:Value}
  {f11:Addr} {od11 an11:Option Addr} {sl11:Array (Option Value)} {oc11 kV11 dc11 pm11 cd11 ct11:Value}
  {f12:Addr} {od12 an12:Option Addr} {sl12:Array (Option Value)} {oc12 kV12 dc12 pm12 cd12 ct12:Value}
  {f13:Addr} {od13 an13:Option Addr} {sl13:Array (Option Value)} {oc13 kV13 dc13 pm13 cd13 ct13:Value}
  {f14:Addr} {od14 an14:Option Addr} {sl14:Array (Option Value)} {oc14 kV14 dc14 pm14 cd14 ct14:Value}
  {f15:Addr} {od15 an15:Option Addr} {sl15:Array (Option Value)} {oc15 kV15 dc15 pm15 cd15 ct15:Value}
  {f16:Addr} {od16 an16:Option Addr} {sl16:Array (Option Value)} {oc16 kV16 dc16 pm16 cd16 ct16:Value}
  {f17:Addr} {od17 an17:Option Addr} {sl17:Array (Option Value)} {oc17 kV17 dc17 pm17 cd17 ct17:Value}
  {f18:Addr} {od18 an18:Option Addr} {sl18:Array (Option Value)} {oc18 kV18 dc18 pm18 cd18 ct18:Value}
  {f19:Addr} {od19 an19:Option Addr} {sl19:Array (Option Value)} {oc19 kV19 dc19 pm19 cd19 ct19:Value}
  {f20:Addr} {od20 an20:Option Addr} {sl20:Array (Option Value)} {oc20 kV20 dc20 pm20 cd20 ct20:Value}
  {f21:Addr} {od21 an21:Option Addr} {sl21:Array (Option Value)} {oc21 kV21 dc21 pm21 cd21 ct21:Value}
  {f22:Addr} {od22 an22:Option Addr} {sl22:Array (Option Value)} {oc22 kV22 dc22 pm22 cd22 ct22:Value}
  {f23:Addr} {od23 an23:Option Addr} {sl23:Array (Option Value)} {oc23 kV23 dc23 pm23 cd23 ct23:Value}
  {f24:Addr} {od24 an24:Option Addr} {sl24:Array (Option Value)} {oc24 kV24 dc24 pm24 cd24 ct24:Value}
  {f25:Addr} {od25 an25:Option Addr} {sl25:Array (Option Value)} {oc25 kV25 dc25 pm25 cd25 ct25:Value}
  {t_LETTERS:Tok}
  {t_FIGURES:Tok}
  {t_FORMS:Addr}
  {t_CASES:Addr} {od_CASES:Option Addr} {n_CASES:Nat} {sl_CASES:Array (Option Value)} {u0_CASES u1_CASES u2_CASES:Tok}
  (aC_MootError:W.nsIn K mainGlobals "MootError"=some (some (.ref C_MootError)))
  (sC_MootError:W.subIn K (.ref C_MootError) (.type "BaseException")=some true)
  (tC_MootError:W.typeIn K (.ref C_MootError)=some (.type "type"))
  (iC_MootError:W.isClsIn K C_MootError=true)
  (aC_NoDeed:W.nsIn K mainGlobals "NoDeed"=some (some (.ref C_NoDeed)))
  (kC_NoDeed:W.keepIn K (.ref C_NoDeed)=true)
  (qC_NoDeed:W.excIn K C_NoDeed bmV "ValueError.__new__"=true)
  (sC_NoDeed:W.subIn K (.ref C_NoDeed) (.type "BaseException")=some true)
  (tC_NoDeed:W.typeIn K (.ref C_NoDeed)=some (.type "type"))
  (iC_NoDeed:W.isClsIn K C_NoDeed=true)
  (u_NoDeed_MootError:W.subIn K (.ref C_NoDeed) (.ref C_MootError)=some true)
  (u_NoDeed_NoDeed:W.subIn K (.ref C_NoDeed) (.ref C_NoDeed)=some true)
  (e1_NoDeed:W.findIn K (.ref C_NoDeed) "__getattribute__"=some (some (.builtin "BaseException.__getattribute__")))
  (e2_NoDeed:W.findIn K (.ref C_NoDeed) "__getattr__"=some none)
  (e3_NoDeed:W.hasDictIn K C_NoDeed=true)
  (e4_NoDeed:W.findIn K (.ref C_NoDeed) "__class__"=some (some (.builtin "object.__class__")))
  (e5_NoDeed:W.mroIn K C_NoDeed (.type "object")=some true)
  (u_NoDeed_ValueError:W.subIn K (.ref C_NoDeed) (.type "ValueError")=some true)
  (e6:W.specialIn K (.builtin "object.__class__") "__get__"=some (some (.builtin "getset_descriptor.__get__")))
  (e7:W.takesIn K (.builtin "object.__class__")=some true)
  (a0:W.nsIn K mainGlobals "_law_src"=some (some (.ref f0))) (l0:K.lookup f0=some ⟨oc0,od0,.func (W.fnOf "_law_src" "_law_src" (defArgs iK) (defBody iK) (defScope iK) .none kV0 dc0 pm0 an0 cd0 ct0),sl0⟩) (c0:W.codeIn K cd0 "_law_src"=true) (k0:W.keepIn K (.ref f0)=true)
  (a1:W.nsIn K mainGlobals "_law_next"=some (some (.ref f1))) (l1:K.lookup f1=some ⟨oc1,od1,.func (W.fnOf "_law_next" "_law_next" (defArgs gJ) (defBody gJ) (defScope gJ) .none kV1 dc1 pm1 an1 cd1 ct1),sl1⟩) (c1:W.codeIn K cd1 "_law_next"=true) (k1:W.keepIn K (.ref f1)=true)
  (a2:W.nsIn K mainGlobals "_law_word"=some (some (.ref f2))) (l2:K.lookup f2=some ⟨oc2,od2,.func (W.fnOf "_law_word" "_law_word" (defArgs fB) (defBody fB) (defScope fB) .none kV2 dc2 pm2 an2 cd2 ct2),sl2⟩) (c2:W.codeIn K cd2 "_law_word"=true) (k2:W.keepIn K (.ref f2)=true)
  (a3:W.nsIn K mainGlobals "_law_unlike"=some (some (.ref f3))) (l3:K.lookup f3=some ⟨oc3,od3,.func (W.fnOf "_law_unlike" "_law_unlike" (defArgs dD) (defBody dD) (defScope dD) .none kV3 dc3 pm3 an3 cd3 ct3),sl3⟩) (c3:W.codeIn K cd3 "_law_unlike"=true) (k3:W.keepIn K (.ref f3)=true)
  (a4:W.nsIn K mainGlobals "_law_names"=some (some (.ref f4))) (l4:K.lookup f4=some ⟨oc4,od4,.func (W.fnOf "_law_names" "_law_names" (defArgs eE) (defBody eE) (defScope eE) .none kV4 dc4 pm4 an4 cd4 ct4),sl4⟩) (c4:W.codeIn K cd4 "_law_names"=true) (k4:W.keepIn K (.ref f4)=true)
  (a5:W.nsIn K mainGlobals "_law_shown"=some (some (.ref f5))) (l5:K.lookup f5=some ⟨oc5,od5,.func (W.fnOf "_law_shown" "_law_shown" (defArgs eG) (defBody eG) (defScope eG) .none kV5 dc5 pm5 an5 cd5 ct5),sl5⟩) (c5:W.codeIn K cd5 "_law_shown"=true) (k5:W.keepIn K (.ref f5)=true)
  (a6:W.nsIn K mainGlobals "_law_form"=some (some (.ref f6))) (l6:K.lookup f6=some ⟨oc6,od6,.func (W.fnOf "_law_form" "_law_form" (defArgs gK) (defBody gK) (defScope gK) .none kV6 dc6 pm6 an6 cd6 ct6),sl6⟩) (c6:W.codeIn K cd6 "_law_form"=true) (k6:W.keepIn K (.ref f6)=true)
  (a7:W.nsIn K mainGlobals "_law_read_number"=some (some (.ref f7))) (l7:K.lookup f7=some ⟨oc7,od7,.func (W.fnOf "_law_read_number" "_law_read_number" (defArgs bA) (defBody bA) (defScope bA) .none kV7 dc7 pm7 an7 cd7 ct7),sl7⟩) (c7:W.codeIn K cd7 "_law_read_number"=true) (k7:W.keepIn K (.ref f7)=true)
  (a8:W.nsIn K mainGlobals "_law_read_name"=some (some (.ref f8))) (l8:K.lookup f8=some ⟨oc8,od8,.func (W.fnOf "_law_read_name" "_law_read_name" (defArgs bT) (defBody bT) (defScope bT) .none kV8 dc8 pm8 an8 cd8 ct8),sl8⟩) (c8:W.codeIn K cd8 "_law_read_name"=true) (k8:W.keepIn K (.ref f8)=true)
  (a9:W.nsIn K mainGlobals "_law_read_part"=some (some (.ref f9))) (l9:K.lookup f9=some ⟨oc9,od9,.func (W.fnOf "_law_read_part" "_law_read_part" (defArgs bU) (defBody bU) (defScope bU) .none kV9 dc9 pm9 an9 cd9 ct9),sl9⟩) (c9:W.codeIn K cd9 "_law_read_part"=true) (k9:W.keepIn K (.ref f9)=true)
  (a10:W.nsIn K mainGlobals "_law_read_sides"=some (some (.ref f10))) (l10:K.lookup f10=some ⟨oc10,od10,.func (W.fnOf "_law_read_sides" "_law_read_sides" (defArgs bj) (defBody bj) (defScope bj) .none kV10 dc10 pm10 an10 cd10 ct10),sl10⟩) (c10:W.codeIn K cd10 "_law_read_sides"=true) (k10:W.keepIn K (.ref f10)=true)
  (a11:W.nsIn K mainGlobals "_law_read"=some (some (.ref f11))) (l11:K.lookup f11=some ⟨oc11,od11,.func (W.fnOf "_law_read" "_law_read" (defArgs fD) (defBody fD) (defScope fD) .none kV11 dc11 pm11 an11 cd11 ct11),sl11⟩) (c11:W.codeIn K cd11 "_law_read"=true) (k11:W.keepIn K (.ref f11)=true)
  (a12:W.nsIn K mainGlobals "is_name"=some (some (.ref f12))) (l12:K.lookup f12=some ⟨oc12,od12,.func (W.fnOf "is_name" "is_name" (defArgs iQ) (defBody iQ) (defScope iQ) .none kV12 dc12 pm12 an12 cd12 ct12),sl12⟩) (c12:W.codeIn K cd12 "is_name"=true) (k12:W.keepIn K (.ref f12)=true)
  (a13:W.nsIn K mainGlobals "read_name"=some (some (.ref f13))) (l13:K.lookup f13=some ⟨oc13,od13,.func (W.fnOf "read_name" "read_name" (defArgs eO) (defBody eO) (defScope eO) .none kV13 dc13 pm13 an13 cd13 ct13),sl13⟩) (c13:W.codeIn K cd13 "read_name"=true) (k13:W.keepIn K (.ref f13)=true)
  (a14:W.nsIn K mainGlobals "read_sides"=some (some (.ref f14))) (l14:K.lookup f14=some ⟨oc14,od14,.func (W.fnOf "read_sides" "read_sides" (defArgs bZ) (defBody bZ) (defScope bZ) .none kV14 dc14 pm14 an14 cd14 ct14),sl14⟩) (c14:W.codeIn K cd14 "read_sides"=true) (k14:W.keepIn K (.ref f14)=true)
  (a15:W.nsIn K mainGlobals "read_number"=some (some (.ref f15))) (l15:K.lookup f15=some ⟨oc15,od15,.func (W.fnOf "read_number" "read_number" (defArgs cI) (defBody cI) (defScope cI) .none kV15 dc15 pm15 an15 cd15 ct15),sl15⟩) (c15:W.codeIn K cd15 "read_number"=true) (k15:W.keepIn K (.ref f15)=true)
  (a16:W.nsIn K mainGlobals "read_words"=some (some (.ref f16))) (l16:K.lookup f16=some ⟨oc16,od16,.func (W.fnOf "read_words" "read_words" (defArgs dH) (defBody dH) (defScope dH) .none kV16 dc16 pm16 an16 cd16 ct16),sl16⟩) (c16:W.codeIn K cd16 "read_words"=true) (k16:W.keepIn K (.ref f16)=true)
  (a17:W.nsIn K mainGlobals "read_deed"=some (some (.ref f17))) (l17:K.lookup f17=some ⟨oc17,od17,.func (W.fnOf "read_deed" "read_deed" (defArgs eQ) (defBody eQ) (defScope eQ) .none kV17 dc17 pm17 an17 cd17 ct17),sl17⟩) (c17:W.codeIn K cd17 "read_deed"=true) (k17:W.keepIn K (.ref f17)=true)
  (a18:W.nsIn K mainGlobals "_law_found"=some (some (.ref f18))) (l18:K.lookup f18=some ⟨oc18,od18,.func (W.fnOf "_law_found" "_law_found" (defArgs eU) (defBody eU) (defScope eU) .none kV18 dc18 pm18 an18 cd18 ct18),sl18⟩) (c18:W.codeIn K cd18 "_law_found"=true) (k18:W.keepIn K (.ref f18)=true)
  (a19:W.nsIn K mainGlobals "_law_number"=some (some (.ref f19))) (l19:K.lookup f19=some ⟨oc19,od19,.func (W.fnOf "_law_number" "_law_number" (defArgs dI) (defBody dI) (defScope dI) .none kV19 dc19 pm19 an19 cd19 ct19),sl19⟩) (c19:W.codeIn K cd19 "_law_number"=true) (k19:W.keepIn K (.ref f19)=true)
  (a20:W.nsIn K mainGlobals "_law_row"=some (some (.ref f20))) (l20:K.lookup f20=some ⟨oc20,od20,.func (W.fnOf "_law_row" "_law_row" (defArgs gU) (defBody gU) (defScope gU) .none kV20 dc20 pm20 an20 cd20 ct20),sl20⟩) (c20:W.codeIn K cd20 "_law_row"=true) (k20:W.keepIn K (.ref f20)=true)
  (a21:W.nsIn K mainGlobals "_law_any_deed"=some (some (.ref f21))) (l21:K.lookup f21=some ⟨oc21,od21,.func (W.fnOf "_law_any_deed" "_law_any_deed" (defArgs bY) (defBody bY) (defScope bY) .none kV21 dc21 pm21 an21 cd21 ct21),sl21⟩) (c21:W.codeIn K cd21 "_law_any_deed"=true) (k21:W.keepIn K (.ref f21)=true)
  (a22:W.nsIn K mainGlobals "_law_spoilt"=some (some (.ref f22))) (l22:K.lookup f22=some ⟨oc22,od22,.func (W.fnOf "_law_spoilt" "_law_spoilt" (defArgs dJ) (defBody dJ) (defScope dJ) .none kV22 dc22 pm22 an22 cd22 ct22),sl22⟩) (c22:W.codeIn K cd22 "_law_spoilt"=true) (k22:W.keepIn K (.ref f22)=true)
  (a23:W.nsIn K mainGlobals "_law_whole"=some (some (.ref f23))) (l23:K.lookup f23=some ⟨oc23,od23,.func (W.fnOf "_law_whole" "_law_whole" (defArgs eV) (defBody eV) (defScope eV) .none kV23 dc23 pm23 an23 cd23 ct23),sl23⟩) (c23:W.codeIn K cd23 "_law_whole"=true) (k23:W.keepIn K (.ref f23)=true)
  (a24:W.nsIn K mainGlobals "_law_same"=some (some (.ref f24))) (l24:K.lookup f24=some ⟨oc24,od24,.func (W.fnOf "_law_same" "_law_same" (defArgs gM) (defBody gM) (defScope gM) .none kV24 dc24 pm24 an24 cd24 ct24),sl24⟩) (c24:W.codeIn K cd24 "_law_same"=true) (k24:W.keepIn K (.ref f24)=true)
  (a25:W.nsIn K mainGlobals "law"=some (some (.ref f25))) (l25:K.lookup f25=some ⟨oc25,od25,.func (W.fnOf "law" "law" (defArgs sX) (defBody sX) (defScope sX) .none kV25 dc25 pm25 an25 cd25 ct25),sl25⟩) (c25:W.codeIn K cd25 "law"=true) (k25:W.keepIn K (.ref f25)=true)
  (y_list:W.nsIn K mainGlobals "list"=some none)
  (y_len:W.nsIn K mainGlobals "len"=some none)
  (y_range:W.nsIn K mainGlobals "range"=some none)
  (y_isinstance:W.nsIn K mainGlobals "isinstance"=some none)
  (y_str:W.nsIn K mainGlobals "str"=some none)
  (y_int:W.nsIn K mainGlobals "int"=some none)
  (y_zip:W.nsIn K mainGlobals "zip"=some none)
  (y_tuple:W.nsIn K mainGlobals "tuple"=some none)
  (y_ValueError:W.nsIn K mainGlobals "ValueError"=some none)
  (y_bool:W.nsIn K mainGlobals "bool"=some none)
  (y_LETTERS:W.nsIn K mainGlobals "LETTERS"=some (some (.str "abcdefghijklmnopqrstuvwxyz" t_LETTERS)))
  (y_FIGURES:W.nsIn K mainGlobals "FIGURES"=some (some (.str "0123456789" t_FIGURES)))
  (y_FORMS:W.nsIn K mainGlobals "FORMS"=some (some (.ref t_FORMS))) (w_FORMS:KTab K w t_FORMS [("come","abb"),("rise","abb"),("die","aba"),("penance","a"),("bring","ab"),("give","baab"),("pay","aabb"),("claim","abbb"),("wergild","aabbb"),("accuse","babb")])
  (y_CASES:W.nsIn K mainGlobals "CASES"=some (some (.ref t_CASES))) (w_CASES:K.lookup t_CASES=some ⟨.type "tuple",od_CASES,.seq #[.str "claim" u0_CASES,.str "wergild" u1_CASES,.str "accuse" u2_CASES] n_CASES,sl_CASES⟩)
  : ∃ fd:FuncData,(∀ (s:Shared) (v:Value),BindsTo s fd ⟨[v],[]⟩ [("_law_script",v)])/\∀ base:Heap,K.In base->base.Ns mainGlobals mg->FnOk l.prog w K mg base (L2.CX l.prog w) 15 fa fd ["_law_script"] (λ vs H Q E=>∀ ca,VSp K ca [true] Lw.jx vs H Q E):=by
 have e:=hfa.symm.trans (W.mg_of X G a25)
 cases e
 have m_NoDeed:W.exmOne K (.ref C_NoDeed) (.ref C_MootError)=some true:=aj6 sC_MootError iC_MootError tC_MootError u_NoDeed_MootError
 have i_NoDeed_NoDeed:W.kitOne K (.ref C_NoDeed) (.ref C_NoDeed)=some true:=aj5 iC_NoDeed tC_NoDeed u_NoDeed_NoDeed
 have i_NoDeed_ValueError:W.kitOne K (.ref C_NoDeed) (.type "ValueError")=some true:=kit_ty (by decide +kernel) u_NoDeed_ValueError
 have z_list:=W.mg_none_of X G y_list
 have z_len:=W.mg_none_of X G y_len
 have z_range:=W.mg_none_of X G y_range
 have z_isinstance:=W.mg_none_of X G y_isinstance
 have z_str:=W.mg_none_of X G y_str
 have z_int:=W.mg_none_of X G y_int
 have z_zip:=W.mg_none_of X G y_zip
 have z_tuple:=W.mg_none_of X G y_tuple
 have z_ValueError:=W.mg_none_of X G y_ValueError
 have z_bool:=W.mg_none_of X G y_bool
 have z_LETTERS:∃ t,mg "LETTERS"=some (.str "abcdefghijklmnopqrstuvwxyz" t):=⟨_,W.mg_of X G y_LETTERS⟩
 have z_FIGURES:∃ t,mg "FIGURES"=some (.str "0123456789" t):=⟨_,W.mg_of X G y_FIGURES⟩
 have z_FORMS:∃ t,mg "FORMS"=some (.ref t)/\KTab K w t [("come","abb"),("rise","abb"),("die","aba"),("penance","a"),("bring","ab"),("give","baab"),("pay","aabb"),("claim","abbb"),("wergild","aabbb"),("accuse","babb")]:=⟨_,W.mg_of X G y_FORMS,w_FORMS⟩
 have z_CASES:∃ t,mg "CASES"=some (.ref t)/\KTx K t ["claim","wergild","accuse"]:=⟨_,W.mg_of X G y_CASES,_,_,_,w_CASES,rfl,rfl,by rw[sizeLine_eq];first | (show 3<=16777216;decide) | exact Nat.le_of_ble_eq_true rfl | simp,.cons ⟨_,rfl⟩ (.cons ⟨_,rfl⟩ (.cons ⟨_,rfl⟩ .nil))⟩
 have F0:=fun_mk (st:=iK) l0 c0 k0
 have b0:=F0.binds (ps:=["_law_script"]) λ _ _ _ _ _ _ us hl=>match us,hl with | [_],_=>rfl
 have F1:=fun_mk (st:=gJ) l1 c1 k1
 have b1:=F1.binds (ps:=["_law_src_here","_law_base"]) λ _ _ _ _ _ _ us hl=>match us,hl with | [_,_],_=>rfl
 have F2:=fun_mk (st:=fB) l2 c2 k2
 have b2:=F2.binds (ps:=["_law_src_here","_law_many"]) λ _ _ _ _ _ _ us hl=>match us,hl with | [_,_],_=>rfl
 have F3:=fun_mk (st:=dD) l3 c3 k3
 have b3:=F3.binds (ps:=["_law_names_here","_law_name"]) λ _ _ _ _ _ _ us hl=>match us,hl with | [_,_],_=>rfl
 have F4:=fun_mk (st:=eE) l4 c4 k4
 have b4:=F4.binds (ps:=["_law_src_here","_law_many"]) λ _ _ _ _ _ _ us hl=>match us,hl with | [_,_],_=>rfl
 have F5:=fun_mk (st:=eG) l5 c5 k5
 have b5:=F5.binds (ps:=["_law_deed"]) λ _ _ _ _ _ _ us hl=>match us,hl with | [_],_=>rfl
 have F6:=fun_mk (st:=gK) l6 c6 k6
 have b6:=F6.binds (ps:=["_law_word_here"]) λ _ _ _ _ _ _ us hl=>match us,hl with | [_],_=>rfl
 have F7:=fun_mk (st:=bA) l7 c7 k7
 have b7:=F7.binds (ps:=["_law_word_here"]) λ _ _ _ _ _ _ us hl=>match us,hl with | [_],_=>rfl
 have F8:=fun_mk (st:=bT) l8 c8 k8
 have b8:=F8.binds (ps:=["_law_word_here"]) λ _ _ _ _ _ _ us hl=>match us,hl with | [_],_=>rfl
 have F9:=fun_mk (st:=bU) l9 c9 k9
 have b9:=F9.binds (ps:=["_law_sign","_law_word_here"]) λ _ _ _ _ _ _ us hl=>match us,hl with | [_,_],_=>rfl
 have F10:=fun_mk (st:=bj) l10 c10 k10
 have b10:=F10.binds (ps:=["_law_words"]) λ _ _ _ _ _ _ us hl=>match us,hl with | [_],_=>rfl
 have F11:=fun_mk (st:=fD) l11 c11 k11
 have b11:=F11.binds (ps:=["_law_text"]) λ _ _ _ _ _ _ us hl=>match us,hl with | [_],_=>rfl
 have F12:=fun_mk (st:=iQ) l12 c12 k12
 have b12:=F12.binds (ps:=["text"]) λ _ _ _ _ _ _ us hl=>match us,hl with | [_],_=>rfl
 have F13:=fun_mk (st:=eO) l13 c13 k13
 have b13:=F13.binds (ps:=["word"]) λ _ _ _ _ _ _ us hl=>match us,hl with | [_],_=>rfl
 have F14:=fun_mk (st:=bZ) l14 c14 k14
 have b14:=F14.binds (ps:=["words"]) λ _ _ _ _ _ _ us hl=>match us,hl with | [_],_=>rfl
 have F15:=fun_mk (st:=cI) l15 c15 k15
 have b15:=F15.binds (ps:=["word"]) λ _ _ _ _ _ _ us hl=>match us,hl with | [_],_=>rfl
 have F16:=fun_mk (st:=dH) l16 c16 k16
 have b16:=F16.binds (ps:=["words","form"]) λ _ _ _ _ _ _ us hl=>match us,hl with | [_,_],_=>rfl
 have F17:=fun_mk (st:=eQ) l17 c17 k17
 have b17:=F17.binds (ps:=["text"]) λ _ _ _ _ _ _ us hl=>match us,hl with | [_],_=>rfl
 have F18:=fun_mk (st:=eU) l18 c18 k18
 have b18:=F18.binds (ps:=["_law_text"]) λ _ _ _ _ _ _ us hl=>match us,hl with | [_],_=>rfl
 have F19:=fun_mk (st:=dI) l19 c19 k19
 have b19:=F19.binds (ps:=["_law_src_here"]) λ _ _ _ _ _ _ us hl=>match us,hl with | [_],_=>rfl
 have F20:=fun_mk (st:=gU) l20 c20 k20
 have b20:=F20.binds (ps:=["_law_src_here","_law_names_here"]) λ _ _ _ _ _ _ us hl=>match us,hl with | [_,_],_=>rfl
 have F21:=fun_mk (st:=bY) l21 c21 k21
 have b21:=F21.binds (ps:=["_law_src_here","_law_names_here"]) λ _ _ _ _ _ _ us hl=>match us,hl with | [_,_],_=>rfl
 have F22:=fun_mk (st:=dJ) l22 c22 k22
 have b22:=F22.binds (ps:=["_law_src_here","_law_text"]) λ _ _ _ _ _ _ us hl=>match us,hl with | [_,_],_=>rfl
 have F23:=fun_mk (st:=eV) l23 c23 k23
 have b23:=F23.binds (ps:=["_law_found_here"]) λ _ _ _ _ _ _ us hl=>match us,hl with | [_],_=>rfl
 have F24:=fun_mk (st:=gM) l24 c24 k24
 have b24:=F24.binds (ps:=["_law_found_here","_law_due"]) λ _ _ _ _ _ _ us hl=>match us,hl with | [_,_],_=>rfl
 have F25:=fun_mk (st:=sX) l25 c25 k25
 refine⟨W.fnOf "law" "law" (defArgs sX) (defBody sX) (defScope sX) .none kV25 dc25 pm25 an25 cd25 ct25,λ s v=>.of_eq rfl,λ base _ _=>?_⟩
 refine FnOk.imp (sp:=VSp K (λ k=>([0,C_MootError,0,0,0,0,0,0,0,0,0,0,0,0,0,0,0,0,0,0,C_NoDeed]:List Addr).getD k 0) [true] Lw.jx) ?_ λ vs H Q E h=>h _
 have gM_MootError:mg "MootError"=some (.ref ((λ k=>([0,C_MootError,0,0,0,0,0,0,0,0,0,0,0,0,0,0,0,0,0,0,C_NoDeed]:List Addr).getD k 0) 1)):=W.mg_of X G aC_MootError
 have R_NoDeed:ExcR K mg ((λ k=>([0,C_MootError,0,0,0,0,0,0,0,0,0,0,0,0,0,0,0,0,0,0,C_NoDeed]:List Addr).getD k 0) 20) "NoDeed":=⟨W.mg_of X G aC_NoDeed,kC_NoDeed,qC_NoDeed,sC_NoDeed,tC_NoDeed⟩
 have gM_NoDeed:mg "NoDeed"=some (.ref ((λ k=>([0,C_MootError,0,0,0,0,0,0,0,0,0,0,0,0,0,0,0,0,0,0,C_NoDeed]:List Addr).getD k 0) 20)):=W.mg_of X G aC_NoDeed
 have hcat_:∀ k∈([20]:List Nat),W.exmOne K (.ref ((λ k=>([0,C_MootError,0,0,0,0,0,0,0,0,0,0,0,0,0,0,0,0,0,0,C_NoDeed]:List Addr).getD k 0) k)) (.ref ((λ k=>([0,C_MootError,0,0,0,0,0,0,0,0,0,0,0,0,0,0,0,0,0,0,C_NoDeed]:List Addr).getD k 0) 1))=some true:=λ k hk=>by
  simp only[List.mem_cons,List.not_mem_nil,or_false]at hk
  rcases hk with rfl
  ·exact m_NoDeed
 have hE_:∀ k∈([20]:List Nat),ExcC K ((λ k=>([0,C_MootError,0,0,0,0,0,0,0,0,0,0,0,0,0,0,0,0,0,0,C_NoDeed]:List Addr).getD k 0) k):=λ k hk=>by
  simp only[List.mem_cons,List.not_mem_nil,or_false]at hk
  rcases hk with rfl
  ·exact⟨e1_NoDeed,e2_NoDeed,sC_NoDeed,e3_NoDeed,e4_NoDeed,e6,e7,e5_NoDeed⟩
 have hI_NoDeed:∀ k∈([20]:List Nat),W.kitOne K (.ref ((λ k=>([0,C_MootError,0,0,0,0,0,0,0,0,0,0,0,0,0,0,0,0,0,0,C_NoDeed]:List Addr).getD k 0) k)) (.ref ((λ k=>([0,C_MootError,0,0,0,0,0,0,0,0,0,0,0,0,0,0,0,0,0,0,C_NoDeed]:List Addr).getD k 0) 20))=some (decide (k=20)):=λ k hk=>by
  simp only[List.mem_cons,List.not_mem_nil,or_false]at hk
  rcases hk with rfl
  ·exact i_NoDeed_NoDeed
 have hI_ValueError:∀ k∈([20]:List Nat),W.kitOne K (.ref ((λ k=>([0,C_MootError,0,0,0,0,0,0,0,0,0,0,0,0,0,0,0,0,0,0,C_NoDeed]:List Addr).getD k 0) k)) (.type "ValueError")=some true:=λ k hk=>by
  simp only[List.mem_cons,List.not_mem_nil,or_false]at hk
  rcases hk with rfl
  ·exact i_NoDeed_ValueError
 have D_law_src:=kE (adb (P:=l.prog) (w:=w) (base:=base) (ca:=λ k=>([0,C_MootError,0,0,0,0,0,0,0,0,0,0,0,0,0,0,0,0,0,0,C_NoDeed]:List Addr).getD k 0) F0 z_list) (W.mg_of X G a0) k0 b0
 have D_law_next:=kE (abB (P:=l.prog) (w:=w) (base:=base) (ca:=λ k=>([0,C_MootError,0,0,0,0,0,0,0,0,0,0,0,0,0,0,0,0,0,0,C_NoDeed]:List Addr).getD k 0) F1 z_len) (W.mg_of X G a1) k1 b1
 have D_law_word:=kE (abC (P:=l.prog) (w:=w) (base:=base) (ca:=λ k=>([0,C_MootError,0,0,0,0,0,0,0,0,0,0,0,0,0,0,0,0,0,0,C_NoDeed]:List Addr).getD k 0) F2 D_law_next z_range) (W.mg_of X G a2) k2 b2
 have D_law_unlike:=kE (zj (P:=l.prog) (w:=w) (base:=base) (ca:=λ k=>([0,C_MootError,0,0,0,0,0,0,0,0,0,0,0,0,0,0,0,0,0,0,C_NoDeed]:List Addr).getD k 0) F3 z_range z_len) (W.mg_of X G a3) k3 b3
 have D_law_names:=kE (aaA (P:=l.prog) (w:=w) (base:=base) (ca:=λ k=>([0,C_MootError,0,0,0,0,0,0,0,0,0,0,0,0,0,0,0,0,0,0,C_NoDeed]:List Addr).getD k 0) F4 D_law_next D_law_word D_law_unlike z_len z_range) (W.mg_of X G a4) k4 b4
 have D_law_shown:=kE (aaB (P:=l.prog) (w:=w) (base:=base) (ca:=λ k=>([0,C_MootError,0,0,0,0,0,0,0,0,0,0,0,0,0,0,0,0,0,0,C_NoDeed]:List Addr).getD k 0) F5 z_isinstance z_list z_str) (W.mg_of X G a5) k5 b5
 have D_law_form:=kE (abD (P:=l.prog) (w:=w) (base:=base) (ca:=λ k=>([0,C_MootError,0,0,0,0,0,0,0,0,0,0,0,0,0,0,0,0,0,0,C_NoDeed]:List Addr).getD k 0) F6 ) (W.mg_of X G a6) k6 b6
 have D_law_read_number:=kE (sW (P:=l.prog) (w:=w) (base:=base) (ca:=λ k=>([0,C_MootError,0,0,0,0,0,0,0,0,0,0,0,0,0,0,0,0,0,0,C_NoDeed]:List Addr).getD k 0) F7 z_len z_int) (W.mg_of X G a7) k7 b7
 have D_law_read_name:=kE (uD (P:=l.prog) (w:=w) (base:=base) (ca:=λ k=>([0,C_MootError,0,0,0,0,0,0,0,0,0,0,0,0,0,0,0,0,0,0,C_NoDeed]:List Addr).getD k 0) F8 z_len) (W.mg_of X G a8) k8 b8
 have D_law_read_part:=kE (uE (P:=l.prog) (w:=w) (base:=base) (ca:=λ k=>([0,C_MootError,0,0,0,0,0,0,0,0,0,0,0,0,0,0,0,0,0,0,C_NoDeed]:List Addr).getD k 0) F9 D_law_read_name D_law_read_number) (W.mg_of X G a9) k9 b9
 have D_law_read_sides:=kE (tX (P:=l.prog) (w:=w) (base:=base) (ca:=λ k=>([0,C_MootError,0,0,0,0,0,0,0,0,0,0,0,0,0,0,0,0,0,0,C_NoDeed]:List Addr).getD k 0) F10 D_law_read_name z_len) (W.mg_of X G a10) k10 b10
 have D_law_read:=kE (abE (P:=l.prog) (w:=w) (base:=base) (ca:=λ k=>([0,C_MootError,0,0,0,0,0,0,0,0,0,0,0,0,0,0,0,0,0,0,C_NoDeed]:List Addr).getD k 0) F11 D_law_form D_law_read_part D_law_read_sides z_len z_zip z_tuple) (W.mg_of X G a11) k11 b11
 have D_is_name:=kE (adc (P:=l.prog) (w:=w) (base:=base) (ca:=λ k=>([0,C_MootError,0,0,0,0,0,0,0,0,0,0,0,0,0,0,0,0,0,0,C_NoDeed]:List Addr).getD k 0) F12 z_len z_LETTERS) (W.mg_of X G a12) k12 b12
 have D_read_name:=kE (aaC (P:=l.prog) (w:=w) (base:=base) (ca:=λ k=>([0,C_MootError,0,0,0,0,0,0,0,0,0,0,0,0,0,0,0,0,0,0,C_NoDeed]:List Addr).getD k 0) F13 D_is_name R_NoDeed) (W.mg_of X G a13) k13 b13
 have D_read_sides:=kE (zm (P:=l.prog) (w:=w) (base:=base) (ca:=λ k=>([0,C_MootError,0,0,0,0,0,0,0,0,0,0,0,0,0,0,0,0,0,0,C_NoDeed]:List Addr).getD k 0) F14 D_read_name R_NoDeed z_len) (W.mg_of X G a14) k14 b14
 have D_read_number:=kE (wG (P:=l.prog) (w:=w) (base:=base) (ca:=λ k=>([0,C_MootError,0,0,0,0,0,0,0,0,0,0,0,0,0,0,0,0,0,0,C_NoDeed]:List Addr).getD k 0) F15 R_NoDeed z_len z_int z_FIGURES) (W.mg_of X G a15) k15 b15
 have D_read_words:=kE (zp (P:=l.prog) (w:=w) (base:=base) (ca:=λ k=>([0,C_MootError,0,0,0,0,0,0,0,0,0,0,0,0,0,0,0,0,0,0,C_NoDeed]:List Addr).getD k 0) F16 D_read_name D_read_number R_NoDeed z_len z_zip) (W.mg_of X G a16) k16 b16
 have D_read_deed:=kE (aaD (P:=l.prog) (w:=w) (base:=base) (ca:=λ k=>([0,C_MootError,0,0,0,0,0,0,0,0,0,0,0,0,0,0,0,0,0,0,C_NoDeed]:List Addr).getD k 0) F17 D_read_words D_read_sides R_NoDeed z_tuple z_len z_FORMS z_CASES) (W.mg_of X G a17) k17 b17
 have D_law_found:DxG l.prog w K mg base (λ k=>([0,C_MootError,0,0,0,0,0,0,0,0,0,0,0,0,0,0,0,0,0,0,C_NoDeed]:List Addr).getD k 0) "_law_found" 5 ["_law_text"] [] [false] Lw.jL:=⟨_,_,aaE (P:=l.prog) (w:=w) (base:=base) (ca:=λ k=>([0,C_MootError,0,0,0,0,0,0,0,0,0,0,0,0,0,0,0,0,0,0,C_NoDeed]:List Addr).getD k 0) F18 D_read_deed gM_MootError gM_NoDeed hcat_ hE_ hI_NoDeed hI_ValueError z_isinstance z_ValueError,W.mg_of X G a18,k18,b18⟩
 have D_law_number:=kE (zq (P:=l.prog) (w:=w) (base:=base) (ca:=λ k=>([0,C_MootError,0,0,0,0,0,0,0,0,0,0,0,0,0,0,0,0,0,0,C_NoDeed]:List Addr).getD k 0) F19 D_law_next) (W.mg_of X G a19) k19 b19
 have D_law_row:=kE (ade (P:=l.prog) (w:=w) (base:=base) (ca:=λ k=>([0,C_MootError,0,0,0,0,0,0,0,0,0,0,0,0,0,0,0,0,0,0,C_NoDeed]:List Addr).getD k 0) F20 D_law_next z_range z_len) (W.mg_of X G a20) k20 b20
 have D_law_any_deed:=kE (wk (P:=l.prog) (w:=w) (base:=base) (ca:=λ k=>([0,C_MootError,0,0,0,0,0,0,0,0,0,0,0,0,0,0,0,0,0,0,C_NoDeed]:List Addr).getD k 0) F21 D_law_next D_law_form D_law_number D_law_row z_len z_tuple) (W.mg_of X G a21) k21 b21
 have D_law_spoilt:=kE (zr (P:=l.prog) (w:=w) (base:=base) (ca:=λ k=>([0,C_MootError,0,0,0,0,0,0,0,0,0,0,0,0,0,0,0,0,0,0,C_NoDeed]:List Addr).getD k 0) F22 D_law_next z_len) (W.mg_of X G a22) k22 b22
 have D_law_whole:=kE (aaF (P:=l.prog) (w:=w) (base:=base) (ca:=λ k=>([0,C_MootError,0,0,0,0,0,0,0,0,0,0,0,0,0,0,0,0,0,0,C_NoDeed]:List Addr).getD k 0) F23 z_isinstance z_int z_bool) (W.mg_of X G a23) k23 b23
 have D_law_same:=wu (P:=l.prog) (w:=w) (base:=base) (ca:=λ k=>([0,C_MootError,0,0,0,0,0,0,0,0,0,0,0,0,0,0,0,0,0,0,C_NoDeed]:List Addr).getD k 0) F24 D_law_whole z_isinstance z_bool z_int z_str z_list z_tuple z_len z_zip (W.mg_of X G a24) k24 b24 12
 exact anl F25 D_law_src D_law_names D_law_next D_law_shown D_law_any_deed D_law_spoilt D_law_read D_law_found D_law_same z_range
end Tx
open PySem PySem.W PyProof.Rows
namespace VS
open PySem PySem.Spec
theorem aid {l:List DictEntry}{P:Params}{ks:List Str}(h:l.map He.keyOf=He.keysIn P ks):∀ e∈l,e.refKey=false/\∀ z,e.key.isStr z=true->z∈ks:=by
 induction l generalizing ks with
 | nil=>intro e he;cases he
 | cons e l ih =>
  cases ks with
  | nil=>cases h
  | cons k ks =>
   have h1:He.keyOf e::l.map He.keyOf=some (k,PyData.keyHash P k)::He.keysIn P ks:=h
   injection h1 with h2 h3
   intro e' he'
   rcases List.mem_cons.mp he' with rfl | he'
   ·have h2:(match e'.key with
     | .str x _=>some (x,e'.hash)
     | _=>none)=some (k,PyData.keyHash P k):=h2
    split at h2
    ·rename_i x t q
     have h4:=Option.some.inj h2
     obtain⟨h5,h6⟩:=Prod.mk.inj h4
     subst h5
     refine⟨by unfold DictEntry.refKey;rw[q],λ z hz=>?_⟩
     rw[q]at hz
     have:(x == z)=true:=hz
     rw[←eq_of_beq this]
     exact List.mem_cons_self
    ·cases h2
   ·obtain⟨a,b⟩:=ih h3 e' he'
    exact⟨a,λ z hz=>List.mem_cons_of_mem _ (b z hz)⟩
theorem lookup_none {rows:List (Str×Str)}{z:Str}(h:z∉rows.map Prod.fst):rows.lookup z=none:=by
 induction rows with
 | nil=>rfl
 | cons r rs ih =>
  obtain⟨k,v⟩:=r
  rw[List.map_cons,List.mem_cons]at h
  rw[List.lookup_cons]
  have:(z == k)=false:=beq_false_of_ne λ e=>h (.inl e)
  rw[this]
  exact ih λ q=>h (.inr q)
theorem afY {rows:List (Str×Str)}{z:Str}(h:z∈rows.map Prod.fst):∃ y,rows.lookup z=some y/\(z,y)∈rows:=by
 induction rows with
 | nil=>cases h
 | cons r rs ih =>
  obtain⟨k,v⟩:=r
  rw[List.lookup_cons]
  by_cases e:z=k
  ·subst e
   exact⟨v,by rw[beq_self_eq_true],List.mem_cons_self⟩
  ·rw[show(z == k)=false from beq_false_of_ne e]
   rw[List.map_cons,List.mem_cons]at h
   obtain⟨y,a,b⟩:=ih (h.resolve_left e)
   exact⟨y,a,List.mem_cons_of_mem _ b⟩
theorem ak7 {K:W.Frag}{w:World}{x:Str}{rows:List (Str×Str)}(h1:He.dicW K (He.ga K x)=some (He.keysIn w.params (rows.map Prod.fst)))(h2:tabX x rows K=true):KTab K w (He.ga K x) rows:=by
 refine⟨He.dicW_ok h1,λ z=>?_⟩
 have hval:∀ q∈rows,∃ t,W.nsIn K (He.ga K x) q.1=some (some (.str q.2 t)):=λ q hq=>by
  have:=List.all_eq_true.mp h2 q hq
  split at this
  ·rename_i y t e
   exact⟨t,by rw[e,of_decide_eq_true this]⟩
  ·cases this
 by_cases hz:z∈rows.map Prod.fst
 ·obtain⟨y,e,hm⟩:=afY hz
  obtain⟨t,e2⟩:=hval _ hm
  exact⟨_,e2,by rw[e];rfl,λ y' e'=>⟨_,rfl,by rw[e]at e';cases e';exact⟨t,rfl⟩⟩⟩
 ·refine⟨none,?_,by rw[lookup_none hz];rfl,λ y e=>by rw[lookup_none hz]at e;cases e⟩
  unfold He.dicW at h1
  unfold W.nsIn
  split at h1
  ·rename_i cc es nn sl q
   rw[q]
   split at h1
   ·have hk:=aid (Option.some.inj h1)
    have hf:es.toList.find? (·.key.isStr z)=none:=List.find?_eq_none.mpr λ e he hs=>hz ((hk e he).2 z hs)
    have ha:es.toList.any (·.refKey)=false:=List.any_eq_false.mpr λ e he=>by rw[(hk e he).1];decide
    show(match es.toList.find? (·.key.isStr z) with
     | some e=>some (some e.val)
     | none=>if es.toList.any (·.refKey) then none else some none)=_
    rw[hf,ha]
    rfl
   ·cases h1
  ·cases h1
theorem aie {K:W.Frag}{w:World}{h:Heap}{x:Str}{k y:Str}{rows:List (Str×Str)}(X:K.In h)(ct:∃ K1:W.Frag,K1.In h/\He.dicW K1 (He.ga K1 x)=some (He.keysIn w.params (((k,y)::rows).map Prod.fst))/\gaOk K1 x=true)(hg:W.nsIn K mainGlobals x=some (some (.ref (He.ga K x))))(h2:tabX x ((k,y)::rows) K=true):KTab K w (He.ga K x) ((k,y)::rows):=by
 obtain⟨K1,X1,h1,hk⟩:=ct
 have e1:W.nsIn K1 mainGlobals x=some (some (.ref (He.ga K1 x))):=by
  unfold gaOk at hk
  unfold He.ga
  split at hk
  ·rename_i a e
   rw[e]
  ·cases hk
 have ea:He.ga K x=He.ga K1 x:=by
  have:=aiR X X1 hg e1
  injection this
 have hr:∃ u,W.nsIn K (He.ga K x) k=some (some u):=by
  have:=List.all_eq_true.mp h2 (k,y) List.mem_cons_self
  split at this
  ·rename_i y' t e
   exact⟨_,e⟩
  ·cases this
 obtain⟨u,hu⟩:=hr
 rw[←ea]at h1
 exact ak7 (af4 X X1 hu h1) h2
end VS
namespace Tx
open PySem PySem.Spec PyProof.Rows L2 VS
theorem factsL {w:World}{K:W.Frag}{h:Heap}{mg:Str->Option Value}{fa:Addr}(X:K.In h)(G:h.Ns mainGlobals mg)(hfa:mg "law"=some (.ref fa)) (c:VS.SaysY faL fnL exL tsL w h K):∃ fd:FuncData,(∀ (s:Shared) (v:Value),BindsTo s fd ⟨[v],[]⟩ [("_law_script",v)])/\∀ base:Heap,K.In base->base.Ns mainGlobals mg->FnOk PySem.Challenge.rw_forsworn_k50_lines_read.prog w K mg base (L2.CX PySem.Challenge.rw_forsworn_k50_lines_read.prog w) 15 fa fd ["_law_script"] (λ vs H Q E=>∀ ca,VSp K ca [true] Lw.jx vs H Q E):=by
 obtain⟨c,ct⟩:=c
 obtain⟨c,cx⟩:=VS.acw c
 obtain⟨_,F0⟩:=c.def_ 0 (d:=e0) rfl
 obtain⟨_,_,_,_,_,_,_,_,_,l0,c0,k0⟩:=VS.cM F0
 obtain⟨_,F1⟩:=c.def_ 1 (d:=e1) rfl
 obtain⟨_,_,_,_,_,_,_,_,_,l1,c1,k1⟩:=VS.cM F1
 obtain⟨_,F2⟩:=c.def_ 2 (d:=e2) rfl
 obtain⟨_,_,_,_,_,_,_,_,_,l2,c2,k2⟩:=VS.cM F2
 obtain⟨_,F3⟩:=c.def_ 3 (d:=e3) rfl
 obtain⟨_,_,_,_,_,_,_,_,_,l3,c3,k3⟩:=VS.cM F3
 obtain⟨_,F4⟩:=c.def_ 4 (d:=e4) rfl
 obtain⟨_,_,_,_,_,_,_,_,_,l4,c4,k4⟩:=VS.cM F4
 obtain⟨_,F5⟩:=c.def_ 5 (d:=e5) rfl
 obtain⟨_,_,_,_,_,_,_,_,_,l5,c5,k5⟩:=VS.cM F5
 obtain⟨_,F6⟩:=c.def_ 6 (d:=e6) rfl
 obtain⟨_,_,_,_,_,_,_,_,_,l6,c6,k6⟩:=VS.cM F6
 obtain⟨_,F7⟩:=c.def_ 7 (d:=e7) rfl
 obtain⟨_,_,_,_,_,_,_,_,_,l7,c7,k7⟩:=VS.cM F7
 obtain⟨_,F8⟩:=c.def_ 8 (d:=e8) rfl
 obtain⟨_,_,_,_,_,_,_,_,_,l8,c8,k8⟩:=VS.cM F8
 obtain⟨_,F9⟩:=c.def_ 9 (d:=e9) rfl
 obtain⟨_,_,_,_,_,_,_,_,_,l9,c9,k9⟩:=VS.cM F9
 obtain⟨_,F10⟩:=c.def_ 10 (d:=e10) rfl
 obtain⟨_,_,_,_,_,_,_,_,_,l10,c10,k10⟩:=VS.cM F10
 obtain⟨_,F11⟩:=c.def_ 11 (d:=e11) rfl
 obtain⟨_,_,_,_,_,_,_,_,_,l11,c11,k11⟩:=VS.cM F11
 obtain⟨_,F12⟩:=c.def_ 12 (d:=e12) rfl
 obtain⟨_,_,_,_,_,_,_,_,_,l12,c12,k12⟩:=VS.cM F12
 obtain⟨_,F13⟩:=c.def_ 13 (d:=e13) rfl
 obtain⟨_,_,_,_,_,_,_,_,_,l13,c13,k13⟩:=VS.cM F13
 obtain⟨_,F14⟩:=c.def_ 14 (d:=e14) rfl
 obtain⟨_,_,_,_,_,_,_,_,_,l14,c14,k14⟩:=VS.cM F14
 obtain⟨_,F15⟩:=c.def_ 15 (d:=e15) rfl
 obtain⟨_,_,_,_,_,_,_,_,_,l15,c15,k15⟩:=VS.cM F15
 obtain⟨_,F16⟩:=c.def_ 16 (d:=e16) rfl
 obtain⟨_,_,_,_,_,_,_,_,_,l16,c16,k16⟩:=VS.cM F16
 obtain⟨_,F17⟩:=c.def_ 17 (d:=e17) rfl
 obtain⟨_,_,_,_,_,_,_,_,_,l17,c17,k17⟩:=VS.cM F17
 obtain⟨_,F18⟩:=c.def_ 18 (d:=e18) rfl
 obtain⟨_,_,_,_,_,_,_,_,_,l18,c18,k18⟩:=VS.cM F18
 obtain⟨_,F19⟩:=c.def_ 19 (d:=e19) rfl
 obtain⟨_,_,_,_,_,_,_,_,_,l19,c19,k19⟩:=VS.cM F19
 obtain⟨_,F20⟩:=c.def_ 20 (d:=e20) rfl
 obtain⟨_,_,_,_,_,_,_,_,_,l20,c20,k20⟩:=VS.cM F20
 obtain⟨_,F21⟩:=c.def_ 21 (d:=e21) rfl
 obtain⟨_,_,_,_,_,_,_,_,_,l21,c21,k21⟩:=VS.cM F21
 obtain⟨_,F22⟩:=c.def_ 22 (d:=e22) rfl
 obtain⟨_,_,_,_,_,_,_,_,_,l22,c22,k22⟩:=VS.cM F22
 obtain⟨_,F23⟩:=c.def_ 23 (d:=e23) rfl
 obtain⟨_,_,_,_,_,_,_,_,_,l23,c23,k23⟩:=VS.cM F23
 obtain⟨_,F24⟩:=c.def_ 24 (d:=e24) rfl
 obtain⟨_,_,_,_,_,_,_,_,_,l24,c24,k24⟩:=VS.cM F24
 obtain⟨_,F25⟩:=c.def_ 25 (d:=e25) rfl
 obtain⟨_,_,_,_,_,_,_,_,_,l25,c25,k25⟩:=VS.cM F25
 obtain⟨_,wy_LETTERS⟩:=VS.adK (c.fact 39 (f:=.str "LETTERS" "abcdefghijklmnopqrstuvwxyz") rfl)
 obtain⟨_,wy_FIGURES⟩:=VS.adK (c.fact 40 (f:=.str "FIGURES" "0123456789") rfl)
 obtain⟨q_MootError,_,s_MootError,t_MootError⟩:=He.exc_ok (c.fact 41 (f:=.exc "MootError") rfl)
 obtain⟨q_NoDeed,_,s_NoDeed,t_NoDeed⟩:=He.exc_ok (c.fact 42 (f:=.exc "NoDeed") rfl)
 obtain⟨_,_,_,_,_,_,w_CASES⟩:=VS.af1 (cx 4 (VS.tup3X "CASES" "claim" "wergild" "accuse") rfl)
 exact aik (l:=PySem.Challenge.rw_forsworn_k50_lines_read) X G hfa (VS.bW (c.fact 0 rfl)) s_MootError t_MootError (cx 0 _ rfl) (VS.bW (c.fact 1 rfl)) (He.keep_ok (c.fact 2 (f:=.keep "NoDeed") rfl)) q_NoDeed s_NoDeed t_NoDeed (cx 1 _ rfl) (VS.ak9 (cx 2 _ rfl)) (VS.ak9 (cx 3 _ rfl)) (VS.aiP (cx 5 _ rfl)) (VS.aiP (cx 6 _ rfl)) (cx 8 _ rfl) (VS.aiP (cx 7 _ rfl)) (VS.anx (cx 9 _ rfl)) (VS.anw (cx 10 _ rfl)) (He.eqO_ok (cx 11 _ rfl)) (of_decide_eq_true (cx 12 _ rfl)) (VS.bW (c.fact 3 (f:=.glo "_law_src") rfl)) l0 c0 k0 (VS.bW (c.fact 4 (f:=.glo "_law_next") rfl)) l1 c1 k1 (VS.bW (c.fact 5 (f:=.glo "_law_word") rfl)) l2 c2 k2 (VS.bW (c.fact 6 (f:=.glo "_law_unlike") rfl)) l3 c3 k3 (VS.bW (c.fact 7 (f:=.glo "_law_names") rfl)) l4 c4 k4 (VS.bW (c.fact 8 (f:=.glo "_law_shown") rfl)) l5 c5 k5 (VS.bW (c.fact 9 (f:=.glo "_law_form") rfl)) l6 c6 k6 (VS.bW (c.fact 10 (f:=.glo "_law_read_number") rfl)) l7 c7 k7 (VS.bW (c.fact 11 (f:=.glo "_law_read_name") rfl)) l8 c8 k8 (VS.bW (c.fact 12 (f:=.glo "_law_read_part") rfl)) l9 c9 k9 (VS.bW (c.fact 13 (f:=.glo "_law_read_sides") rfl)) l10 c10 k10 (VS.bW (c.fact 14 (f:=.glo "_law_read") rfl)) l11 c11 k11 (VS.bW (c.fact 15 (f:=.glo "is_name") rfl)) l12 c12 k12 (VS.bW (c.fact 16 (f:=.glo "read_name") rfl)) l13 c13 k13 (VS.bW (c.fact 17 (f:=.glo "read_sides") rfl)) l14 c14 k14 (VS.bW (c.fact 18 (f:=.glo "read_number") rfl)) l15 c15 k15 (VS.bW (c.fact 19 (f:=.glo "read_words") rfl)) l16 c16 k16 (VS.bW (c.fact 20 (f:=.glo "read_deed") rfl)) l17 c17 k17 (VS.bW (c.fact 21 (f:=.glo "_law_found") rfl)) l18 c18 k18 (VS.bW (c.fact 22 (f:=.glo "_law_number") rfl)) l19 c19 k19 (VS.bW (c.fact 23 (f:=.glo "_law_row") rfl)) l20 c20 k20 (VS.bW (c.fact 24 (f:=.glo "_law_any_deed") rfl)) l21 c21 k21 (VS.bW (c.fact 25 (f:=.glo "_law_spoilt") rfl)) l22 c22 k22 (VS.bW (c.fact 26 (f:=.glo "_law_whole") rfl)) l23 c23 k23 (VS.bW (c.fact 27 (f:=.glo "_law_same") rfl)) l24 c24 k24 (VS.bW (c.fact 28 (f:=.glo "law") rfl)) l25 c25 k25 (VS.jO (c.fact 29 (f:=.free "list") rfl)) (VS.jO (c.fact 30 (f:=.free "len") rfl)) (VS.jO (c.fact 31 (f:=.free "range") rfl)) (VS.jO (c.fact 32 (f:=.free "isinstance") rfl)) (VS.jO (c.fact 33 (f:=.free "str") rfl)) (VS.jO (c.fact 34 (f:=.free "int") rfl)) (VS.jO (c.fact 35 (f:=.free "zip") rfl)) (VS.jO (c.fact 36 (f:=.free "tuple") rfl)) (VS.jO (c.fact 37 (f:=.free "ValueError") rfl)) (VS.jO (c.fact 38 (f:=.free "bool") rfl)) wy_LETTERS wy_FIGURES (VS.bW (c.fact 43 (f:=.glo "FORMS") rfl)) (VS.aie X (VS.aiQ ct 0 tb0 rfl) (VS.bW (c.fact 43 (f:=.glo "FORMS") rfl)) (cx 13 (VS.tabX tb0.1 tb0.2) rfl)) (VS.bW (c.fact 44 (f:=.glo "CASES") rfl)) w_CASES
end Tx
set_option maxHeartbeats 0 in
theorem PySem.Challenge.cw_forsworn_k50_lines_read_holds : PySem.Challenge.rw_forsworn_k50_lines_read.Holds := by
 exact Tx.endL Lw.jx Lw.aic (λ _ _ _ _ _ X G hfa c=>Tx.factsL X G hfa c)
