import PyProof.Rows.All
import Wide.All
import OpenK.AllK
import Wide.FinOn
import HandS.ForMost
import HandS.Exc
import HandS.Flow
import HandS.Style
import HandS.Conv
import HandS.Star
import HandS.Defaults
import HandS.Wide
import HandS.WideBits
import HandS.TupAny
import HandS.TupMul
import HandS.Deep
import HandS.TryMany
import HandS.TryOnly
import HandS.Property
import KE.KStateDown
import HandS.Head0
import HandS.Head1
import HandS.Head2
import HandS.HeadEnd
import HandS.EndBits
import HandS.HeadHook1
import HandS.HeadHook2
import HandS.HeadHook3
import HandS.HeadNt
import KE.KExcSuper
import KE.KTryMore
import KE.KIsAll
import KE.KNestM
import HandS.Lambda
import KE.KDictKeyed
import KE.KeyNested
import HandS.CallSlots
import HandS.Small
import KE.GoesEnum
import HandS.Zip
import HandS.IsInst
import HandS.SetFor
import HandS.ExcInit
import HandS.ExcSuper
import HandS.ClsMeth
import HandS.MakeKw
import HandS.HotCalls
import HandS.ExcIs
import HandS.ExcField
import KE.KExcIs
import HandS.RaiseMore
import HandS.OwnEq
import HandS.SlotsOwn
import HandS.SortInts
import KE.KDictDisplayH
import HandS.DictComp
import HandS.Replace
import PyProof.InstEq
import HandS.FStr
import KE.KDictPairs
import HandS.ListItems
import KE.SortData
import HandS.More
import KE.KEqDict
import HandS.TupSets
import KE.DataFind
import HandS.ReplaceDef
import HandS.ReplaceLit
import HandS.ReplaceList
import PySem.Challenge.RW_linepieces_k15_letters_are_alike
set_option Elab.async false
set_option linter.all false
set_option maxRecDepth 100000
set_option maxHeartbeats 0
universe u v
theorem gEsZ {α : Type u} {l : List α} {i : Nat} {a : α} : l[i]? = some a ↔ ∃ h : i < l.length, l[i] = a := List.getElem?_eq_some_iff
theorem mOsZ {α : Type u} {β : Type v} {x : Option α} {f : α -> β} {b : β} : x.map f = some b ↔ ∃ a, x = some a /\ f a = b := Option.map_eq_some_iff
theorem gzZ {α : Type u} {a : α} {l : List α} : (a :: l)[0]? = some a := rfl
theorem gsZ {α : Type u} {a : α} {l : List α} {i : Nat} : (a :: l)[i + 1]? = l[i]? := rfl
namespace UL
open PySem PySem.Spec PyProof.Rows L2
def eM:List String:=["NoneType", "bool", "int", "str", "list", "tuple", "dict"]
abbrev Fact:=PySem.W.Frag->Bool
structure mI where
  c:Str
  qual:Str
  params:Arguments
  body:List Stmt
  scope:Scope
abbrev zN:Type:=Option (Str × Str × Arguments × FuncBody × Scope × Addr × List Str × Addr)
def F1 (K:PySem.W.Frag) (c:Str):Addr:=match PySem.W.findIn K (.ref (He.ga K c)) "__init__" with
  | some (some (.ref a))=>a
  | _=>0
def EV (K:PySem.W.Frag) (x:mI):zN:=match K.lookup (F1 K x.c) with
  | some ⟨_,_,.func fd,_⟩=>some (fd.name,fd.qualname,fd.params,fd.body,fd.scope,fd.globals,fd.closure.map (·.1),fd.builtins)
  | _=>none
def mI.val (x:mI):zN:=some ("__init__",x.qual,x.params,.stmts x.body,x.scope,mainGlobals,["__class__"],builtinsNs)
class bo where
  fs:List (PySem.W.Frag->Addr × Str)
def FQ (K:PySem.W.Frag) (f:Addr):Addr:=match K.lookup f with
  | some ⟨_,_,.func fd,_⟩=>(match fd.code with
    | .ref c=>c
    | _=>0)
  | _=>0
def CA (K:PySem.W.Frag) (f:Addr):Addr:=match K.lookup (FQ K f) with
  | some ⟨_,_,.fields vs,_⟩=>(match vs.getD 11 .none with
    | .ref p=>p
    | _=>0)
  | _=>0
def KU (g:Addr->Option Obj) (K:PySem.W.Frag) (f:Addr):Bool:=PySem.W.codeHdIn K (FQ K f) (CA K f) && ((K.lookup (CA K f)).isNone && match g (CA K f) with
  | some ⟨.none,none,.fields vs,sl⟩=>vs.isEmpty && sl.isEmpty
  | _=>false)
abbrev HF:Type:=(He.AlT × List zN) × Bool
def Iy (fb:List Fact) (fn:List He5.DefA) (ts:List He.Tab) (xs:List mI) (K:PySem.W.Frag):He.AlT × List zN:=((((fb.all fun f=>f K) && fn.all fun d=>d.ok K,fn.map fun d=>He5.fnA K (d.at_ K)),ts.map fun t=>He.dicW K (t.1 K)),xs.map (EV K))
def Je (fn:List He5.DefA) (ts:List He.Tab) (xs:List mI) (w:World):He.AlT × List zN:=(((true,fn.map He5.DefA.val),ts.map fun t=>some (He.keysIn w.params t.2)),xs.map mI.val)
def jj (fb:List Fact) (fn:List He5.DefA) (ts:List He.Tab) (xs:List mI) (w:World) (K:PySem.W.Frag):Prop:=Iy fb fn ts xs K=Je fn ts xs w
structure zU (K:PySem.W.Frag) (h:Heap) (f:Addr):Prop where
  hd:PySem.W.CodeHd h (FQ K f) (CA K f)
  no:K.lookup (CA K f)=none
  tb:h.get? (CA K f)=some { cls:=.none,data:=.fields #[] }
theorem Hq {K:PySem.W.Frag} {h:Heap} {f:Addr} (X:K.In h) (e:KU h.get? K f=true):zU K h f:=by
  obtain⟨e1,e2⟩:=He.ba e;obtain⟨e2,e3⟩:=He.ba e2;refine⟨PySem.W.codeHd_of_K X e1,by simpa using e2,?_⟩
  split at e3
  . rename_i vs sl q
    obtain⟨z1,z2⟩:=He.ba e3;have y1:vs=#[]:=by simpa using z1
    have y2:sl=#[]:=by simpa using z2
    subst y1 y2;exact q
  . cases e3
inductive zM where
  | ve | le | ae
def zM.nm:zM->String
  | .ve => "ValueError"
  | .le => "LookupError"
  | .ae => "ArithmeticError"
def zM.newId:zM->String
  | .ve => "ValueError.__new__"
  | .le => "LookupError.__new__"
  | .ae => "ArithmeticError.__new__"
def zM.ini:zM->String
  | .ve => "ValueError.__init__"
  | .le => "LookupError.__init__"
  | .ae => "ArithmeticError.__init__"
abbrev HX:List Value:=[.type "ValueError",.type "Exception",.type "BaseException",.type "object"]
abbrev HW:List Value:=[.type "LookupError",.type "Exception",.type "BaseException",.type "object"]
abbrev HV:List Value:=[.type "ArithmeticError",.type "Exception",.type "BaseException",.type "object"]
def zM.bm:zM->List Value
  | .ve=>HX
  | .le=>HW
  | .ae=>HV
def Ju (o:Option (Option Value)):Bool:=match o with
  | some none=>true
  | _=>false
theorem Bn {o:Option (Option Value)} (h:Ju o=true):o=some none:=by
  unfold Ju at h;split at h
  . rfl
  . cases h
open PySem.W in
def Ia (c:Str) (K:Frag):Bool:=decide (subIn K (.ref (He.ga K c)) (.type "BaseException")=some true) && (decide (typeIn K (.ref (He.ga K c))=some (.type "type")) && keepIn K (.ref (He.ga K c)))
open PySem.W in
def EU (file:Str) (T:zM) (ps:List Str) (x:mI) (K:Frag):Bool:=Ia x.c K && (excInitIn K (He.ga K x.c) T.bm T.newId && (excOver K (He.ga K x.c) T.bm && (He.eqO (ks_superIn K (He.ga K x.c) (He.ga K x.c) "__init__") (some (some (.builtin T.ini))) && (decide (subIn K (.ref (He.ga K x.c)) (.type T.nm)=some true) &&
  (decide (mroIn K (He.ga K x.c) (.ref (He.ga K x.c))=some true) && (Ju (nsIn K cStatics "thirdparty.any") && (He.eqO (findIn K (.ref (He.ga K x.c)) "__setattr__") (some (some (.builtin "object.__setattr__"))) && (hasDictIn K (He.ga K x.c) && ((ps.all fun f=>Ju (takerIn K (He.ga K x.c) f)) &&
  (He.eqO (findIn K (.ref (He.ga K x.c)) "__init__") (some (some (.ref (F1 K x.c)))) && (decide (typeIn K (.ref (F1 K x.c))=some (.type "function")) && match K.lookup (F1 K x.c) with
    | some ⟨_,_,.func fd,_⟩=>(match fd.code,fd.defaults,fd.closure with
      | .ref cda,.none,[(_,cc)]=>codeIn K (.ref cda) x.qual && ((match K.lookup cda with
          | some ⟨_,_,.fields vs,_⟩=>(match (vs[2]?:Option Value) with
            | some (.str file' _)=>file == file'
            | _=>false)
          | _=>false) && (match K.lookup cc with
          | some ⟨_,_,.cell (some (.ref C)),_⟩=>C == He.ga K x.c
          | _=>false))
      | _,_,_=>false)
    | _=>false)))))))))))
open PySem.W in
def pa (K:Frag) (C f:Str):Addr:=match findIn K (.ref (He.ga K C)) f with
  | some (some (.ref p))=>(match recIn K p "property" with
    | some (.ref g::_)=>g
    | _=>0)
  | _=>0
open PySem.W in
def Dg (K:Frag) (C:Str):Bool:=(He.Fa.cls C).ok K && (He.eqO (findIn K (.ref (He.ga K C)) "__class__") (some (some (.builtin "object.__class__"))) && (He.eqO (specialIn K (.builtin "object.__class__") "__get__") (some (some (.builtin "getset_descriptor.__get__"))) &&
  (decide (takesIn K (.builtin "object.__class__")=some true) && (decide (mroIn K (He.ga K C) (.type "object")=some true) && ((eM.all fun t=>decide (kitOne K (.type t) (.ref (He.ga K C))=some false)) && eM.all fun t=>decide (kitOne K (.ref (He.ga K C)) (.type t)=some false))))))
open PySem.W in
def F8 (K:Frag) (cs:List Str):Bool:=cs.all fun c=>cs.all fun d=>c == d || decide (kitOne K (.ref (He.ga K c)) (.ref (He.ga K d))=some false)
inductive Dv where
  | non | bl (b:Bool) | int (i:Int) | str (x:List Nat) | nil
def Bp (as:List Addr) (fb:List Fact) (fn:List He5.DefA) (ts:List He.Tab) (xs:List mI) (tb:List (PySem.W.Frag->Addr)) (g:Addr->Option Obj):HF:=(Iy fb fn ts xs (He.frG g as),tb.all fun f=>KU g (He.frG g as) (f (He.frG g as)))
def EX (as:List Addr) (fb:List Fact) (fn:List He5.DefA) (ts:List He.Tab) (xs:List mI) (tb:List (PySem.W.Frag->Addr)):PySem.W.Hook where
  α:=HF
  obs:=fun s=>Bp as fb fn ts xs tb s.heap.get?
  val:=fun w=>(Je fn ts xs w,true)
  says:=fun w h=>∃ K:PySem.W.Frag,K.In h/\jj fb fn ts xs w K/\∀ f∈tb,zU K h (f K)
  of:=fun _ _ e=>⟨_,He.frG_in,congrArg (fun z:HF=>z.1) e,fun f hf=>Hq He.frG_in (List.all_eq_true.mp (congrArg (fun z:HF=>z.2) e) f hf)⟩
  keeps:=fun _ _ _ ⟨K,hK,c,t⟩ k=>⟨K,PySem.W.Frag.In.keeps hK k,c,fun f hf=>⟨(t f hf).hd.keeps k,(t f hf).no,k _ _ (t f hf).tb⟩⟩
theorem Bq {as:List Addr} {fb:List Fact} {fn:List He5.DefA} {ts:List He.Tab} {xs:List mI} {tb:List (PySem.W.Frag->Addr)} {g:Addr->Option Obj} {s:Shared} (h:∀ a,g a=s.heap.get? a):Bp as fb fn ts xs tb g=(EX as fb fn ts xs tb).obs s:=by
  have e:g=s.heap.get?:=funext h;rw[e]<;>rfl
end UL

namespace LW
open PySem PySem.Spec PyProof.Rows L2 UL
instance:bo:=⟨[]⟩
def top (i:Nat):Stmt:=PySem.Challenge.pw_linepieces_k15_letters_are_alike.main.body.getD i (.Pass ⟨0,0,0,0⟩)
def nm0:List Str:=["_wall", "WrongValue", "InvalidText", "NotAReader", "InvalidEach", "InvalidPiece", "InvalidLast", "InvalidPieces", "END", "MARK", "MOST_EACH", "MOST_PIECE", "MOST_LAST", "EACH", "PIECE", "LAST", "PARTS", "LEAST", "MOST", "LETTERS", "is_signs", "step_in", "wrong_row", "steps_of", "parts_in", "Reader", "check_reader", "check_pieces", "holds", "bare"]
def nm1:List Str:=["done", "lines_of", "lines", "_law_spring", "_law_draw", "_law_of", "_law_goal", "_law_row", "_law_free_part", "_law_base", "_law_parts", "_law_made", "_law_signs", "_law_pieces", "_law_exchanged", "_law_right"]
def names:List Str:=nm0++nm1
def D0:He5.DefA:=⟨(fun K=>He.ga K "_law_draw"), "_law_draw", "_law_draw",defArgs (top 38),defBody (top 38),defScope (top 38),[],[]⟩
def D1:He5.DefA:=⟨(fun K=>He.ga K "_law_of"), "_law_of", "_law_of",defArgs (top 39),defBody (top 39),defScope (top 39),[],[]⟩
def D2:He5.DefA:=⟨(fun K=>He.ga K "_law_signs"), "_law_signs", "_law_signs",defArgs (top 46),defBody (top 46),defScope (top 46),[],[]⟩
def D3:He5.DefA:=⟨(fun K=>He.ga K "_law_pieces"), "_law_pieces", "_law_pieces",defArgs (top 47),defBody (top 47),defScope (top 47),[],[]⟩
def D4:He5.DefA:=⟨(fun K=>He.ga K "_law_goal"), "_law_goal", "_law_goal",defArgs (top 40),defBody (top 40),defScope (top 40),[],[]⟩
def D5:He5.DefA:=⟨(fun K=>He.ga K "_law_row"), "_law_row", "_law_row",defArgs (top 41),defBody (top 41),defScope (top 41),[],[]⟩
def D6:He5.DefA:=⟨(fun K=>He.ga K "_law_free_part"), "_law_free_part", "_law_free_part",defArgs (top 42),defBody (top 42),defScope (top 42),[],[]⟩
def D7:He5.DefA:=⟨(fun K=>He.ga K "_law_base"), "_law_base", "_law_base",defArgs (top 43),defBody (top 43),defScope (top 43),[],[]⟩
def D8:He5.DefA:=⟨(fun K=>He.ga K "_law_parts"), "_law_parts", "_law_parts",defArgs (top 44),defBody (top 44),defScope (top 44),[],[]⟩
def D9:He5.DefA:=⟨(fun K=>He.ga K "step_in"), "step_in", "step_in",defArgs (top 23),defBody (top 23),defScope (top 23),[],[]⟩
def Kh:He5.DefA:=⟨(fun K=>He.ga K "wrong_row"), "wrong_row", "wrong_row",defArgs (top 24),defBody (top 24),defScope (top 24),[],[]⟩
def Ki:He5.DefA:=⟨(fun K=>He.ga K "steps_of"), "steps_of", "steps_of",defArgs (top 25),defBody (top 25),defScope (top 25),[],[]⟩
def Kj:He5.DefA:=⟨(fun K=>(He.ma K (He.ga K "Reader") "__init__")), "__init__", "Reader.__init__",defArgs (inClass (top 27) 0),defBody (inClass (top 27) 0),defScope (inClass (top 27) 0),[.adr (He.dflAt ("Reader",some "__init__") 0),.adr (He.dflAt ("Reader",some "__init__") 1)],[]⟩
def Kk:He5.DefA:=⟨(fun K=>He.ga K "_law_made"), "_law_made", "_law_made",defArgs (top 45),defBody (top 45),defScope (top 45),[],[]⟩
def Kl:He5.DefA:=⟨(fun K=>He.ga K "check_reader"), "check_reader", "check_reader",defArgs (top 28),defBody (top 28),defScope (top 28),[],[]⟩
def Km:He5.DefA:=⟨(fun K=>He.ga K "is_signs"), "is_signs", "is_signs",defArgs (top 22),defBody (top 22),defScope (top 22),[],[]⟩
def Kn:He5.DefA:=⟨(fun K=>He.ga K "check_pieces"), "check_pieces", "check_pieces",defArgs (top 29),defBody (top 29),defScope (top 29),[],[]⟩
def Ko:He5.DefA:=⟨(fun K=>He.ga K "holds"), "holds", "holds",defArgs (top 31),defBody (top 31),defScope (top 31),[],[]⟩
def Kq:He5.DefA:=⟨(fun K=>He.ga K "bare"), "bare", "bare",defArgs (top 32),defBody (top 32),defScope (top 32),[],[]⟩
def Kr:He5.DefA:=⟨(fun K=>He.ga K "done"), "done", "done",defArgs (top 33),defBody (top 33),defScope (top 33),[],[]⟩
def Ks:He5.DefA:=⟨(fun K=>He.ga K "lines_of"), "lines_of", "lines_of",defArgs (top 34),defBody (top 34),defScope (top 34),[],[]⟩
def Kt:He5.DefA:=⟨(fun K=>He.ga K "lines"), "lines", "lines",defArgs (top 35),defBody (top 35),defScope (top 35),[],[]⟩
def Ku:He5.DefA:=⟨(fun K=>He.ga K "_law_exchanged"), "_law_exchanged", "_law_exchanged",defArgs (top 48),defBody (top 48),defScope (top 48),[],[]⟩
def Kv:He5.DefA:=⟨(fun K=>He.ga K "_law_right"), "_law_right", "_law_right",defArgs (top 49),defBody (top 49),defScope (top 49),[],[]⟩
def Kw:He5.DefA:=⟨(fun K=>He.ga K "_law_spring"), "_law_spring", "_law_spring",defArgs (top 37),defBody (top 37),defScope (top 37),[],[]⟩
def Kx:He5.DefA:=⟨(fun K=>He.ga K "law"), "law", "law",defArgs (top 50),defBody (top 50),defScope (top 50),[],[]⟩
def X0:mI:=⟨"InvalidEach", "InvalidEach.__init__",defArgs (inClass (top 5) 0),defBody (inClass (top 5) 0),defScope (inClass (top 5) 0)⟩
def X1:mI:=⟨"InvalidPiece", "InvalidPiece.__init__",defArgs (inClass (top 6) 0),defBody (inClass (top 6) 0),defScope (inClass (top 6) 0)⟩
def X2:mI:=⟨"InvalidLast", "InvalidLast.__init__",defArgs (inClass (top 7) 0),defBody (inClass (top 7) 0),defScope (inClass (top 7) 0)⟩
def X3:mI:=⟨"NotAReader", "NotAReader.__init__",defArgs (inClass (top 4) 0),defBody (inClass (top 4) 0),defScope (inClass (top 4) 0)⟩
def X4:mI:=⟨"InvalidPieces", "InvalidPieces.__init__",defArgs (inClass (top 8) 0),defBody (inClass (top 8) 0),defScope (inClass (top 8) 0)⟩
def Jp:List mI:=[X0,X1,X2,X3,X4]
def fn:List He5.DefA:=[D0,D1,D2,D3,D4,D5,D6,D7,D8,D9,Kh,Ki,Kj,Kk,Kl,Km,Kn,Ko,Kq,Kr,Ks,Kt,Ku,Kv,Kw,Kx]
def fb:List Fact:=[(He.Fa.free "all").ok,
  (He.Fa.free "max").ok,
  (He.Fa.free "min").ok,
  (He.Fa.free "len").ok,
  (He.Fa.free "range").ok,
  (He.Fa.free "tuple").ok,
  (He.Fa.free "int").ok,
  (He.Fa.free "divmod").ok,
  (He.Fa.glo "_law_draw").ok,
  (He.Fa.glo "_law_of").ok,
  (He.Fa.glo "_law_signs").ok,
  (He.Fa.glo "_law_pieces").ok,
  (He.Fa.free "str").ok,
  (He.Fa.glo "_law_goal").ok,
  (He.Fa.glo "_law_row").ok,
  (He.Fa.glo "_law_free_part").ok,
  (He.Fa.glo "_law_base").ok,
  (He.Fa.glo "_law_parts").ok,
  (He.Fa.free "isinstance").ok,
  (He.Fa.glo "Reader").ok,
  (fun K=>Dg K "Reader"),
  (fun K=>F8 K ["Reader"]),
  (fun K=>He.valsB K (He.ga K "LEAST") [("each",He.Dv.int (1)),("piece",He.Dv.int (0)),("last",He.Dv.int (0))]),
  (He.Fa.glo "LEAST").ok,
  (fun K=>He.valsB K (He.ga K "MOST") [("each",He.Dv.int (10)),("piece",He.Dv.int (5)),("last",He.Dv.int (5))]),
  (He.Fa.glo "MOST").ok,
  (He.Fa.free "enumerate").ok,
  (He.Fa.str "EACH" "each").ok,
  (He.Fa.glo "step_in").ok,
  (He.Fa.glo "wrong_row").ok,
  (He.Fa.glo "InvalidEach").ok,
  (He.Fa.free "super").ok,
  (EU "/claim/cut.py" .ve ["index"] X0),
  (He.Fa.str "PIECE" "piece").ok,
  (He.Fa.glo "InvalidPiece").ok,
  (EU "/claim/cut.py" .ve ["index"] X1),
  (He.Fa.str "LAST" "last").ok,
  (He.Fa.glo "InvalidLast").ok,
  (EU "/claim/cut.py" .ve ["index"] X2),
  (He.Fa.cls "Reader").ok,
  (He.Fa.noat "Reader" "parts").ok,
  (He.Fa.glo "steps_of").ok,
  (He.Fa.noat "Reader" "steps").ok,
  (He.Fa.noat "Reader" "whole").ok,
  (He.Fa.noat "Reader" "shown").ok,
  (He.Fa.mkr "Reader").ok,
  (He.Fa.keep "Reader").ok,
  (He.Fa.glo "_law_made").ok,
  (He.Fa.glo "NotAReader").ok,
  (EU "/claim/cut.py" .ve ["given"] X3),
  (He.Fa.glo "check_reader").ok,
  (He.Fa.glo "InvalidPieces").ok,
  (EU "/claim/cut.py" .ve ["index"] X4),
  (He.Fa.str "LETTERS" "abcdefghijklmnopqrstuvwxyz").ok,
  (He.Fa.str "MARK" ",").ok,
  (He.Fa.str "END" ";").ok,
  (He.Fa.glo "is_signs").ok,
  (He.Fa.glo "check_pieces").ok,
  (He.Fa.glo "holds").ok,
  (He.Fa.glo "bare").ok,
  (He.Fa.glo "done").ok,
  (He.Fa.glo "lines_of").ok,
  (He.Fa.glo "lines").ok,
  (He.Fa.glo "_law_exchanged").ok,
  (He.Fa.free "repr").ok,
  (He.Fa.free "any").ok,
  (He.Fa.glo "_law_right").ok,
  (He.Fa.free "abs").ok,
  (He.Fa.glo "_law_spring").ok,
  (He.Fa.glo "law").ok]
def ts:List He.Tab:=[(fun K=>He.ga K "LEAST",["each", "piece", "last"]),(fun K=>He.ga K "MOST",["each", "piece", "last"])]
abbrev R:PySem.W.OpenRow:=PySem.W.OpenLaw.row PySem.Challenge.rw_linepieces_k15_letters_are_alike
def adr:List Addr:=[3,6,4,21,31,53,74,95,116,137,158,161,162,163,168,173,180,185,192,289,300,307,314,321,328,335,342,349,356,363,370,377,382,389,396,403,408,413,420,425,430,0,20,30,52,73,94,115,136,157,167,172,179,184,191,288,299,306,313,320,327,334,341,348,355,362,369,376,381,388,395,402,407,412,419,424,429,15,17,18,19,29,32,50,51,71,72,92,93,113,114,134,135,155,156,164,166,169,171,174,176,177,178,181,183,186,188,189,190,209,218,227,235,243,251,258,265,272,279,286,287,290,291,294,296,297,298,301,303,304,305,308,310,311,312,315,317,318,319,322,324,325,326,329,331,332,333,336,338,339,340,343,345,346,347,350,352,353,354,357,359,360,361,364,366,367,368,371,373,374,375,378,380,383,385,386,387,390,392,393,394,397,399,400,401,404,406,409,411,414,416,417,418,421,423,426,428,49,38,70,59,91,80,112,101,133,122,154,143,208,202,216,217,226,234,242,250,257,264,271,278,285,44,46,47,48,65,67,68,69,86,88,89,90,107,109,110,111,128,130,131,132,149,151,152,153,203,205,206,207,200,201,215,219,225,233,241,249,252,254,255,256,259,261,262,263,266,268,269,270,273,275,276,277,280,282,283,284,210,212,213,214,220,222,223,224,228,230,231,232,236,238,239,240,244,246,247,248,2]
def tb:List (PySem.W.Frag->Addr):=bo.fs.map fun p K=>(p K).1
abbrev hk:PySem.W.Hook:=EX adr fb fn ts Jp tb
def ob (s:PySem.W.SharedT):HF:=Bp adr fb fn ts Jp tb (HandSHeadRun.getT s)
theorem Iw (s:PySem.W.SharedT):ob s=hk.obs s.abs:=Bq (HandSHeadRun.getT_eq s)
theorem Kc (w:World):HandSHeadRun.RunEq R (PySem.W.view R.prog [50]) hk ob 8000 names (w.withFollow "special-get-raises" false):=fun os=>by kernel_rfl
theorem Kd (w:World):HandSHeadRun.RunEq R (PySem.W.view R.prog [50]) hk ob 8000 names (w.withFollow "special-get-raises" true):=fun os=>by kernel_rfl
theorem run (w:World):HandSHeadRun.RunEq R (PySem.W.view R.prog [50]) hk ob 8000 names w:=
  PySem.W.byRow2 "special-get-raises" (P:=fun w=>HandSHeadRun.RunEq R (PySem.W.view R.prog [50]) hk ob 8000 names w) Kc Kd w
end LW

namespace UL
open PySem PySem.Spec PyProof.Rows L2

abbrev Sg:=L2.St
inductive U where
  | non | bl (b:Bool) | int (i:Int) | str (x:List Nat) | ty (n:String) | glo (x:Str) | ref (i:Nat) | tup (us:List U) | adr (a:Addr)

inductive O where
  | lst (us:List U)
  | fro (us:List U)
  | cq (kvs:List (U × U))
  | dN (kvs:List (U × U))
  | ins (c:Str) (fs:List (Str × U))
  | exd (d:Addr) (fs:List (Str × U))
    | dL (kvs:List (U × U))

abbrev Hm:=List O

inductive Rs (α:Type) where
  | ok (a:α) (h:Hm)
  | ex (c:Str) (fs:List (Str × U)) (h:Hm)
  | bad

def Rs.bind {α β:Type}:Rs α->(α->Hm->Rs β)->Rs β
  | .ok a h,f=>f a h
  | .ex c fs h,_=>.ex c fs h
  | .bad,_=>.bad

abbrev S (x:List Nat):Str:=⟨x.toArray⟩

section
variable [bo] (K:PySem.W.Frag) (mg:Str->Option Value)
mutual
def RU (m:Nat->Addr) (H:Hp) (n:Nat):U->V->Prop
  | .non,v=>v=.non
  | .bl b,v=>v=.bl b
  | .int i,v=>v=.int i
  | .str x,v=>v=.str (S x)
  | .ty t,v=>v=.ty t
  | .glo x,v=>∃ a,v=.ref a/\mg x=some (.ref a)
  | .ref i,v=>i < n/\v=.ref (m i)
  | .tup us,v=>∃ a xs,v=.ref a/\SqT K H a xs/\a5 m H n us xs
  | .adr a,v=>v=.ref a
def a5 (m:Nat->Addr) (H:Hp) (n:Nat):List U->List V->Prop
  | [],vs=>vs=[]
  | u::us,vs=>∃ v r,vs=v::r/\RU m H n u v/\a5 m H n us r
end

def ja (m:Nat->Addr) (H:Hp) (n:Nat):List (Str × U)->List (Str × V)->Prop
  | [],fs=>fs=[]
  | (f,u)::us,fs=>∃ v r,fs=(f,v)::r/\RU K mg m H n u v/\ja m H n us r

def eS:U->Option Key
  | .int i=>some (.inl i)
  | .str x=>some (.inr (S x))
  | _=>none
def fU (m:Nat->Addr) (H:Hp) (n:Nat):List (U × U)->List (Key × V)->Prop
  | [],ks=>ks=[]
  | (k,u)::us,ks=>∃ q v r,ks=(q,v)::r/\eS k=some q/\RU K mg m H n u v/\fU m H n us r

mutual
def E4:U->Option NestedKey
  | .non=>some .none
  | .bl b=>some (.num (if b=true then 1 else 0))
  | .int i=>some (.num i)
  | .str x=>some (.text (S x))
  | .tup us=>(uE us).map NestedKey.tup
  | .ty _=>none
  | .glo _=>none
  | .ref _=>none
  | .adr _=>none
def uE:List U->Option (List NestedKey)
  | []=>some []
  | u::us=>(E4 u).bind fun k=>(uE us).map fun ks=>k::ks
end
def dO:U->Option NestedKey
  | .tup us=>(E4 (.tup us)).bind fun k=>if k.depth<=8 then some k else none
  | _=>none
abbrev gi:=NestedKey × Addr × Value
def CZ (w:World) (x:gi):DictEntry:=⟨x.1.hash w,.ref x.2.1,x.2.2⟩
def vH (a:Addr) (es:Array DictEntry) (ep:Nat):HO:=.ext fun h=>∃ o,h.get? a=some o/\o.ExactDict/\o.data=.dict es ep
def gz (m:Nat->Addr) (H:Hp) (n:Nat):List (U × U)->List gi->Prop
  | [],xs=>xs=[]
  | (k,u)::us,xs=>∃ q b v r,xs=(q,b,v)::r/\dO k=some q/\RU K mg m H n k (.ref b)/\(∃ y,RelV y v/\RU K mg m H n u y)/\gz m H n us r

def vG (H:Hp) (a:Addr) (xs:List V):Prop:=(∃ o,H a=some (.frz o (.lst xs))) \/
    ∃ (o:Obj) (its:Array Value) (n:Nat),K.lookup a=some o/\o.cls=.type "list"/\o.dict=none/\o.data=.seq its n/\its.size<=sizeLine/\Vals xs its.toList

def RO (W0:World) (K:PySem.W.Frag) (mg:Str->Option Value) (m:Nat->Addr) (H:Hp) (n:Nat):O->Addr->Prop
  | .lst us,a=>∃ xs,H a=some (.lst xs)/\a5 K mg m H n us xs
  | .fro us,a=>∃ xs,vG K H a xs/\a5 K mg m H n us xs
  | .cq kvs,a=>∃ ks,H a=some (.dK ks)/\fU K mg m H n kvs ks
  | .dN kvs,a=>(a == sysModules)=false/\kvs.length<=sizeLine/\∃ xs es ep,H a=some (vH a es ep)/\es.toList=xs.map (CZ W0)/\(xs.map (·.1)).Nodup/\gz K mg m H n kvs xs
  | .ins c fs,a=>∃ C dx vs,mg c=some (.ref C)/\H a=some (.ins C dx vs)/\ja K mg m H n fs vs
  | .exd d fs,a=>a=d/\∃ vs,H a=some (.xd vs)/\ja K mg m H n fs vs
  | .dL kvs,a=>∃ od ks,H a=some (.frz od (.dK ks))/\fU K mg m H n kvs ks

def nK:O->Bool
  | .fro _=>true
  | .exd _ _=>true
  | .dL _=>true
  | _=>false

def xm:O->Bool
  | .fro _=>true
  | .exd _ _=>true
  | _=>false

structure RH (W0:World) (K:PySem.W.Frag) (mg:Str->Option Value) (m:Nat->Addr) (H:Hp) (h:Hm):Prop where
  at_:∀ i o,h[i]?=some o->RO W0 K mg m H h.length o (m i)
  inj:∀ i j o o',h[i]?=some o->h[j]?=some o'->xm o=false->xm o'=false->m i=m j->i=j
  tabs:∀ p∈bo.fs,LamX.TabS H (CA K (p K).1) ((p K).2++"<lambda>")

structure FN (m:Nat->Addr) (H:Hp) (n:Nat) (m':Nat->Addr) (H':Hp) (n':Nat):Prop where
  le:n<=n'
  eq:∀ i,i < n->m' i=m i
  tup:∀ a xs,SqT K H a xs->SqT K H' a xs
structure Up (m:Nat->Addr) (H:Hp) (n:Nat) (m':Nat->Addr) (H':Hp) (n':Nat):Prop where
  le:n<=n'
  eq:∀ i,i < n->m' i=m i
  tup:∀ a xs,SqT K H a xs->SqT K H' a xs
  frz:∀ b o u,H b=some (.frz o u)->H' b=some (.frz o u)
end

section
variable [bo] {W0:World} {K:PySem.W.Frag} {mg:Str->Option Value} {m m' m'':Nat->Addr} {H H' H'':Hp} {n n' n'':Nat}
theorem Up.refl:Up K m H n m H n:=⟨Nat.le_refl _,fun _ _=>rfl,fun _ _ h=>h,fun _ _ _ h=>h⟩
theorem Up.trans (a:Up K m H n m' H' n') (b:Up K m' H' n' m'' H'' n''):Up K m H n m'' H'' n'':=
  ⟨Nat.le_trans a.le b.le,fun i hi=>(b.eq i (Nat.lt_of_lt_of_le hi a.le)).trans (a.eq i hi),fun x xs h=>b.tup x xs (a.tup x xs h),fun x o u h=>b.frz x o u (a.frz x o u h)⟩
theorem Up.w (p:Up K m H n m' H' n'):FN K m H n m' H' n':=⟨p.le,p.eq,p.tup⟩
mutual
theorem RU.mC (p:FN K m H n m' H' n'):∀ (u:U) (v:V),RU K mg m H n u v->RU K mg m' H' n' u v
  | .non,_,h=>by simpa only[RU] using h
  | .bl _,_,h=>by simpa only[RU] using h
  | .int _,_,h=>by simpa only[RU] using h
  | .str _,_,h=>by simpa only[RU] using h
  | .ty _,_,h=>by simpa only[RU] using h
  | .glo _,_,h=>by simpa only[RU] using h
  | .ref i,_,h=>by
    simp only[RU] at h ⊢;exact⟨Nat.lt_of_lt_of_le h.1 p.le,by rw[p.eq i h.1];exact h.2⟩
  | .tup us,_,h=>by
    simp only[RU] at h ⊢;obtain⟨a,xs,e,t,r⟩:=h;exact⟨a,xs,e,p.tup _ _ t,a5.mC p us xs r⟩
  | .adr _,_,h=>by simpa only[RU] using h
theorem a5.mC (p:FN K m H n m' H' n'):∀ (us:List U) (vs:List V),a5 K mg m H n us vs->a5 K mg m' H' n' us vs
  | [],_,h=>by simpa only[a5] using h
  | u::us,_,h=>by
    simp only[a5] at h ⊢;obtain⟨v,r,e,h1,h2⟩:=h;exact⟨v,r,e,RU.mC p u v h1,a5.mC p us r h2⟩
end
theorem ja.mC (p:FN K m H n m' H' n'):∀ (us:List (Str × U)) (vs:List (Str × V)),ja K mg m H n us vs->ja K mg m' H' n' us vs
  | [],_,h=>h
  | (f,u)::us,_,h=>by
    obtain⟨v,r,e,h1,h2⟩:=h;exact⟨v,r,e,RU.mC p u v h1,ja.mC p us r h2⟩
theorem fU.mC (p:FN K m H n m' H' n'):∀ (us:List (U × U)) (vs:List (Key × V)),fU K mg m H n us vs->fU K mg m' H' n' us vs
  | [],_,h=>h
  | (k,u)::us,_,h=>by
    obtain⟨q,v,r,e,hk,h1,h2⟩:=h;exact⟨q,v,r,e,hk,RU.mC p u v h1,fU.mC p us r h2⟩
theorem gz.mC (p:FN K m H n m' H' n'):∀ (us:List (U × U)) (vs:List gi),gz K mg m H n us vs->gz K mg m' H' n' us vs
  | [],_,h=>h
  | (k,u)::us,_,h=>by
    obtain⟨q,b,v,r,e,hk,h0,⟨y,ry,h1⟩,h2⟩:=h;exact⟨q,b,v,r,e,hk,RU.mC p _ _ h0,⟨y,ry,RU.mC p u y h1⟩,gz.mC p us r h2⟩
theorem RU.up (p:Up K m H n m' H' n') (u:U) (v:V) (h:RU K mg m H n u v):RU K mg m' H' n' u v:=RU.mC p.w u v h
theorem a5.up (p:Up K m H n m' H' n') (us:List U) (vs:List V) (h:a5 K mg m H n us vs):a5 K mg m' H' n' us vs:=a5.mC p.w us vs h
theorem ja.up (p:Up K m H n m' H' n') (us:List (Str × U)) (vs:List (Str × V)) (h:ja K mg m H n us vs):ja K mg m' H' n' us vs:=ja.mC p.w us vs h
theorem fU.up (p:Up K m H n m' H' n') (us:List (U × U)) (vs:List (Key × V)) (h:fU K mg m H n us vs):fU K mg m' H' n' us vs:=fU.mC p.w us vs h
theorem gz.up (p:Up K m H n m' H' n') (us:List (U × U)) (vs:List gi) (h:gz K mg m H n us vs):gz K mg m' H' n' us vs:=gz.mC p.w us vs h
theorem a5.length:∀ {us:List U} {vs:List V},a5 K mg m H n us vs->us.length=vs.length
  | [],_,h=>by simp only[a5] at h;subst h;rfl
  | u::us,_,h=>by
    simp only[a5] at h;obtain⟨v,r,e,h1,h2⟩:=h;subst e;simp[a5.length h2]
theorem a5.append:∀ {us ws:List U} {vs zs:List V},a5 K mg m H n us vs->a5 K mg m H n ws zs->a5 K mg m H n (us++ws) (vs++zs)
  | [],ws,vs,zs,h,h'=>by simp only[a5] at h;subst h;exact h'
  | u::us,ws,vs,zs,h,h'=>by
    simp only[a5] at h;obtain⟨v,r,e,h1,h2⟩:=h;subst e;simp only[List.cons_append,a5];exact⟨v,_,rfl,h1,a5.append h2 h'⟩
theorem a5.get:∀ {us:List U} {vs:List V} {i:Nat} {u:U},a5 K mg m H n us vs->us[i]?=some u->∃ v,vs[i]?=some v/\RU K mg m H n u v
  | [],_,i,_,h,e=>by simp at e
  | u::us,_,i,w,h,e=>by
    simp only[a5] at h;obtain⟨v,r,e',h1,h2⟩:=h;subst e';cases i with
    | zero=>simp at e;subst e;exact⟨v,by simp,h1⟩
    | succ i=>simp at e ⊢;exact a5.get h2 e
theorem a5.set:∀ {us:List U} {vs:List V} {u:U} {v:V} (i:Nat),a5 K mg m H n us vs->RU K mg m H n u v->a5 K mg m H n (us.set i u) (vs.set i v)
  | [],_,_,_,_,h,_=>by simp only[a5] at h;subst h;simp[a5]
  | u::us,_,w,z,0,h,hw=>by
    simp only[a5] at h;obtain⟨v,r,e',h1,h2⟩:=h;subst e';simp only[List.set_cons_zero,a5];exact⟨_,_,rfl,hw,h2⟩
  | u::us,_,w,z,i + 1,h,hw=>by
    simp only[a5] at h;obtain⟨v,r,e',h1,h2⟩:=h;subst e';simp only[List.set_cons_succ,a5];exact⟨_,_,rfl,h1,a5.set i h2 hw⟩
theorem a5.take:∀ {us:List U} {vs:List V} (i:Nat),a5 K mg m H n us vs->a5 K mg m H n (us.take i) (vs.take i)
  | [],_,_,h=>by simp only[a5] at h;subst h;simp[a5]
  | u::us,_,0,h=>by simp[a5]
  | u::us,_,i + 1,h=>by
    simp only[a5] at h;obtain⟨v,r,e',h1,h2⟩:=h;subst e';simp only[List.take_succ_cons,a5];exact⟨_,_,rfl,h1,a5.take i h2⟩
theorem a5.drop:∀ {us:List U} {vs:List V} (i:Nat),a5 K mg m H n us vs->a5 K mg m H n (us.drop i) (vs.drop i)
  | [],_,_,h=>by simp only[a5] at h;subst h;simp[a5]
  | u::us,_,0,h=>by simpa using h
  | u::us,_,i + 1,h=>by
    simp only[a5] at h;obtain⟨v,r,e',h1,h2⟩:=h;subst e';simp only[List.drop_succ_cons];exact a5.drop i h2
theorem vG.up {a:Addr} {xs:List V} (f:vG K H a xs) (h:∀ b o u,H b=some (.frz o u)->H' b=some (.frz o u)):vG K H' a xs:=by
  rcases f with ⟨o,e⟩ | f
  . exact .inl ⟨o,h _ _ _ e⟩
  . exact .inr f
theorem vG.sq {a:Addr} {xs:List V} (f:vG K H a xs):SqL K H a xs:=by
  rcases f with ⟨o,e⟩ | f
  . exact .inl (.inr ⟨o,e⟩)
  . exact .inr f
theorem RO.sq {us:List U} {a:Addr} (r:RO W0 K mg m H n (.lst us) a\/RO W0 K mg m H n (.fro us) a):∃ xs,SqL K H a xs/\a5 K mg m H n us xs:=by
  rcases r with ⟨xs,e,r⟩ | ⟨xs,e,r⟩
  . exact⟨xs,SqL.of e,r⟩
  . exact⟨xs,e.sq,r⟩

theorem yg {a b:Addr} {o:HO} {xs:List V} (hn:H b=none) (t:SqT K H a xs):SqT K (upd H b o) a xs:=by
  rcases t with (t | ⟨ob,t⟩) | t
  . exact .inl (.inl (by rw[upd_ne (ne_of_none t hn)];exact t))
  . exact .inl (.inr ⟨ob,by rw[upd_ne (ne_of_none t hn)];exact t⟩)
  . exact .inr t
theorem Ew {a b:Addr} {o:HO} {xs:List V} (hm:Mut (H b)) (t:SqT K H a xs):SqT K (upd H b o) a xs:=by
  rcases t with (t | ⟨ob,t⟩) | t
  . exact .inl (.inl (by rw[upd_ne (fun z=>by subst z;rw[t] at hm;exact hm)];exact t))
  . exact .inl (.inr ⟨ob,by rw[upd_ne (fun z=>by subst z;rw[t] at hm;exact hm)];exact t⟩)
  . exact .inr t
def ext (m:Nat->Addr) (n:Nat) (p:Addr):Nat->Addr:=fun i=>if i=n then p else m i
theorem dM {i:Nat} {p:Addr} (h:i < n):ext m n p i=m i:=by unfold ext;rw[if_neg (Nat.ne_of_lt h)]
theorem cX {p:Addr}:ext m n p n=p:=by unfold ext;rw[if_pos rfl]
theorem ym {p:Addr} {o:HO} (hp:H p=none):∀ b ob u,H b=some (.frz ob u)->upd H p o b=some (.frz ob u):=fun b ob u e=>by rw[upd_ne (ne_of_none e hp)];exact e
theorem EH {p:Addr} {o:HO} (hp:Mut (H p)):∀ b ob u,H b=some (.frz ob u)->upd H p o b=some (.frz ob u):=fun b ob u e=>by rw[upd_ne (fun z=>by subst z;rw[e] at hp;exact hp)];exact e
theorem Up.new {p:Addr} {o:HO} (hp:H p=none):Up K m H n (ext m n p) (upd H p o) (n + 1):=⟨Nat.le_succ _,fun i hi=>dM hi,fun _ _ t=>yg hp t,ym hp⟩
theorem Up.one {p:Addr} {o:HO} (hp:H p=none):Up K m H n m (upd H p o) n:=⟨Nat.le_refl _,fun i hi=>rfl,fun _ _ t=>yg hp t,ym hp⟩
theorem Up.CI {p:Addr} {o:HO} (hp:Mut (H p)):Up K m H n m (upd H p o) n:=⟨Nat.le_refl _,fun _ _=>rfl,fun _ _ t=>Ew hp t,EH hp⟩
theorem Ea {a:Addr} {es:Array DictEntry} {ep:Nat} {q:Str}:vH a es ep≠LamX.CodeO a q:=by
  intro z;unfold vH LamX.CodeO at z;injection z with z
  let ob:Obj:={ cls:=.type "dict",data:=.dict es ep }
  let hp:Heap:={ objs:=Array.replicate (a + 1) ob }
  have g:hp.get? a=some ob:=by
    have e:(Array.replicate (a + 1) ob)[a]?=some ob:=by rw[Array.getElem?_replicate,if_pos (Nat.lt_succ_self a)]
    unfold Heap.get?
    show(match (Array.replicate (a + 1) ob)[a]? with
      | some ⟨_,_,.freed,_⟩=>none
      | o=>o)=some ob
    rw[e]
  have h1:∃ o,hp.get? a=some o/\o.ExactDict/\o.data=.dict es ep:=⟨ob,g,⟨rfl,rfl,rfl⟩,rfl⟩
  have e:=congrFun z hp;rw[e] at h1;obtain⟨oc,vs,t,g2,hd,_⟩:=h1;rw[g] at g2;cases g2
  cases hd
theorem RO.plain {o:O} {a:Addr} (r:RO W0 K mg m H n o a) (f:nK o=false):∀ u,H a=some u->(∀ ps,u≠.tbl ps)/\∀ q,u≠LamX.CodeO a q:=by
  cases o with
  | lst us=>obtain⟨xs,e,_⟩:=r;intro u h;rw[e] at h;cases h;exact⟨fun _ z=>(nomatch z),fun _ z=>by unfold LamX.CodeO at z;cases z⟩
  | fro us=>cases f
  | cq kvs=>obtain⟨ks,e,_⟩:=r;intro u h;rw[e] at h;cases h;exact⟨fun _ z=>(nomatch z),fun _ z=>by unfold LamX.CodeO at z;cases z⟩
  | dN kvs=>obtain⟨_,_,xs,es,ep,e,_⟩:=r;intro u h;rw[e] at h;cases h;exact⟨fun _ z=>(nomatch z),fun _ z=>Ea z⟩
  | ins c fs=>obtain⟨C,dx,vs,_,e,_⟩:=r;intro u h;rw[e] at h;cases h;exact⟨fun _ z=>(nomatch z),fun _ z=>by unfold LamX.CodeO at z;cases z⟩
  | exd d fs=>cases f
  | dL kvs=>cases f
theorem RO.tracked {o:O} {a:Addr} (r:RO W0 K mg m H n o a) (f:nK o=false):∃ u,H a=some u/\Mut (some u):=by
  cases o with
  | lst us=>obtain⟨xs,e,_⟩:=r;exact⟨_,e,trivial⟩
  | fro us=>cases f
  | cq kvs=>obtain⟨ks,e,_⟩:=r;exact⟨_,e,trivial⟩
  | dN kvs=>obtain⟨_,_,xs,es,ep,e,_⟩:=r;exact⟨_,e,trivial⟩
  | ins c fs=>obtain⟨C,dx,vs,_,e,_⟩:=r;exact⟨_,e,trivial⟩
  | exd d fs=>cases f
  | dL kvs=>cases f
theorem mL {o:O} (f:nK o=false):xm o=false:=by cases o<;>first | rfl | cases f
theorem RO.there {o:O} {a:Addr} (r:RO W0 K mg m H n o a) (f:xm o=false):∃ u,H a=some u:=by
  cases o with
  | lst us=>obtain⟨xs,e,_⟩:=r;exact⟨_,e⟩
  | fro us=>cases f
  | cq kvs=>obtain⟨ks,e,_⟩:=r;exact⟨_,e⟩
  | dN kvs=>obtain⟨_,_,xs,es,ep,e,_⟩:=r;exact⟨_,e⟩
  | ins c fs=>obtain⟨C,dx,vs,_,e,_⟩:=r;exact⟨_,e⟩
  | exd d fs=>cases f
  | dL kvs=>obtain⟨od,ks,e,_⟩:=r;exact⟨_,e⟩
def Stb:HO->Prop
  | .frz _ _=>True
  | .xd _=>True
  | _=>False
theorem RO.up {o:O} {a:Addr} (r:RO W0 K mg m H n o a) (p:Up K m H n m' H' n') (hk:nK o=false->H' a=H a) (hf:∀ b u,Stb u->H b=some u->H' b=some u):RO W0 K mg m' H' n' o a:=by
  cases o with
  | lst us=>obtain⟨xs,e,r⟩:=r;exact⟨xs,by rw[hk rfl];exact e,a5.up p _ _ r⟩
  | fro us=>obtain⟨xs,e,r⟩:=r;exact⟨xs,e.up fun b ob u=>hf b _ trivial,a5.up p _ _ r⟩
  | cq kvs=>obtain⟨ks,e,r⟩:=r;exact⟨ks,by rw[hk rfl];exact e,fU.up p _ _ r⟩
  | dN kvs=>obtain⟨e1,e2,xs,es,ep,e,e3,e4,r⟩:=r;exact⟨e1,e2,xs,es,ep,by rw[hk rfl];exact e,e3,e4,gz.up p _ _ r⟩
  | ins c fs=>obtain⟨C,dx,vs,hc,e,r⟩:=r;exact⟨C,dx,vs,hc,by rw[hk rfl];exact e,ja.up p _ _ r⟩
  | exd d fs=>obtain⟨ed,vs,e,r⟩:=r;exact⟨ed,vs,hf _ _ trivial e,ja.up p _ _ r⟩
  | dL kvs=>obtain⟨od,ks,e,r⟩:=r;exact⟨od,ks,hf _ _ trivial e,fU.up p _ _ r⟩
theorem xg {p:Addr} {o:HO} (hp:H p=none):∀ b u,Stb u->H b=some u->upd H p o b=some u:=fun b u _ e=>by rw[upd_ne (ne_of_none e hp)];exact e
theorem C9 {p:Addr} {o:HO} (hp:Mut (H p)):∀ b u,Stb u->H b=some u->upd H p o b=some u:=fun b u hs e=>by rw[upd_ne (fun z=>by subst z;rw[e] at hp;cases u<;>first | exact hp | exact hs)];exact e
theorem vk {P p:Addr} {q:Str} {o:HO} (t:LamX.TabS H P q) (hp:∀ u,H p=some u->(∀ ps,u≠.tbl ps)/\∀ q,u≠LamX.CodeO p q):LamX.TabS (upd H p o) P q:=by
  obtain⟨ps,h1,h2,h3⟩:=t;refine⟨ps,?_,h2,fun pos cv hc=>?_⟩
  . have z:P≠p:=fun z=>(hp _ (by rw[<- z];exact h1)).1 ps rfl
    rw[upd_ne z];exact h1
  . obtain⟨c,e1,e2⟩:=h3 pos cv hc
    refine⟨c,e1,?_⟩;have z:c≠p:=fun z=>by subst z;exact(hp _ e2).2 _ rfl
    rw[upd_ne z];exact e2
theorem vj {P p:Addr} {q:Str} {o:HO} (t:LamX.TabS H P q) (hp:H p=none):LamX.TabS (upd H p o) P q:=vk t fun u e=>by rw[hp] at e;cases e
theorem RH.one {h:Hm} {p:Addr} {o:HO} (r:RH W0 K mg m H h) (hp:H p=none):RH W0 K mg m (upd H p o) h:=
  ⟨fun i ob e=>(r.at_ i ob e).up (Up.one hp) (fun f=>by
    obtain⟨u,q,_⟩:=(r.at_ i ob e).tracked f;rw[upd_ne (ne_of_none q hp)]) (xg hp),r.inj,fun p' h'=>vj (r.tabs p' h') hp⟩
theorem RH.new {h:Hm} {p:Addr} {o:HO} {ob:O} (r:RH W0 K mg m H h) (hp:H p=none) (new:RO W0 K mg (ext m h.length p) (upd H p o) (h.length + 1) ob p):RH W0 K mg (ext m h.length p) (upd H p o) (h++[ob]):=by
  have key:∀ {i:Nat} {x:O},(h++[ob])[i]?=some x->(i < h.length/\h[i]?=some x)\/(i=h.length/\x=ob):=fun {i x} e=>by
    by_cases hi:i < h.length
    . rw[List.getElem?_append_left hi] at e;exact .inl ⟨hi,e⟩
    . rw[List.getElem?_append_right (by omega)] at e
      have:i - h.length=0:=by
        cases q:i - h.length with
        | zero=>rfl
        | succ k=>rw[q] at e;simp at e
      rw[this] at e;simp at e;exact .inr ⟨by omega,e.symm⟩
  have hl:(h++[ob]).length=h.length + 1:=by simp
  refine⟨fun i x e=>?_,fun i j x y e e' f f' q=>?_,fun p' h'=>vj (r.tabs p' h') hp⟩
  . rw[hl]
    rcases key e with ⟨hi,e⟩ | ⟨hi,e'⟩
    . rw[dM hi]
      exact(r.at_ i x e).up (Up.new hp) (fun f=>by
        obtain⟨u,q,_⟩:=(r.at_ i x e).tracked f;rw[upd_ne (ne_of_none q hp)]) (xg hp)
    . rw[hi,cX];rw[e'];exact new
  . rcases key e with ⟨hi,e⟩ | ⟨hi,e⟩<;>rcases key e' with ⟨hj,e'⟩ | ⟨hj,e'⟩
    . rw[dM hi,dM hj] at q;exact r.inj i j x y e e' f f' q
    . subst hj
      rw[dM hi,cX] at q;obtain⟨u,z⟩:=(r.at_ i x e).there f;rw[q,hp] at z;cases z
    . subst hi
      rw[dM hj,cX] at q;obtain⟨u,z⟩:=(r.at_ j y e').there f';rw[<- q,hp] at z;cases z
    . omega
theorem RH.put {h:Hm} {i:Nat} {o:HO} {ob ob':O} (r:RH W0 K mg m H h) (hi:h[i]?=some ob) (f:nK ob=false) (f':nK ob'=false) (new:RO W0 K mg m (upd H (m i) o) h.length ob' (m i)):RH W0 K mg m (upd H (m i) o) (h.set i ob'):=by
  obtain⟨u,hu,hm⟩:=(r.at_ i ob hi).tracked f;have hM:Mut (H (m i)):=by rw[hu];exact hm
  have hlt:i < h.length:=(gEsZ.mp hi).1
  have back:∀ {j:Nat} {x:O},(h.set i ob')[j]?=some x->(j=i/\x=ob')\/(j≠i/\h[j]?=some x):=fun {j x} e=>by
    by_cases hj:j=i
    . subst hj;rw[List.getElem?_set_self hlt] at e;cases e;exact .inl ⟨rfl,rfl⟩
    . rw[List.getElem?_set_ne (Ne.symm hj)] at e;exact .inr ⟨hj,e⟩
  refine⟨fun j x e=>?_,fun j k x y e e' g g' q=>?_,fun p' h'=>vk (r.tabs p' h') fun v hv=>?_⟩
  . rw[List.length_set]
    rcases back e with ⟨rfl,rfl⟩ | ⟨hj,e⟩
    . exact new
    . refine(r.at_ j x e).up (Up.CI hM) (fun g=>?_) (C9 hM)
      rw[upd_ne fun z=>hj (r.inj j i x ob e hi (mL g) (mL f) z)]
  . rcases back e with ⟨a1,a2⟩ | ⟨hj,e1⟩<;>rcases back e' with ⟨b1,b2⟩ | ⟨hk,e2⟩
    . rw[a1,b1]
    . rw[a1] at q ⊢;exact r.inj _ _ ob y hi e2 (mL f) g' q
    . rw[b1] at q ⊢;exact r.inj _ _ x ob e1 hi g (mL f) q
    . exact r.inj _ _ x y e1 e2 g g' q
  . exact(r.at_ i ob hi).plain f v hv
end
end UL

namespace UL
open PySem PySem.Spec PyProof.Rows L2
variable [bo]

abbrev En:=List (Option U)
abbrev FE:=En->Hm->Rs U
abbrev FT:=En->Hm->Rs Bool
abbrev FA:=En->Hm->Rs (List U)

section
variable (K:PySem.W.Frag) (mg:Str->Option Value)
def cT (m:Nat->Addr) (H:Hp) (n:Nat):En->Sg->Prop
  | [],σ=>σ=[]
  | none::su,σ=>∃ v r,σ=v::r/\cT m H n su r
  | some u::su,σ=>∃ v r,σ=some v::r/\RU K mg m H n u v/\cT m H n su r
def RX (m:Nat->Addr) (H:Hp) (n:Nat) (c:Str) (fs:List (Str × U)) (cls:Value) (d:Option Addr):Prop:=
  (∃ C,mg c=some (.ref C)/\cls=.ref C)/\((fs=[]/\d=none)\/∃ dx vs,d=some dx/\H dx=some (.xd vs)/\ja K mg m H n fs vs)
end

section
variable {K:PySem.W.Frag} {mg:Str->Option Value} {m m' m'':Nat->Addr} {H H' H'':Hp} {n n' n'':Nat}
theorem cT.up (p:Up K m H n m' H' n'):∀ (su:En) (σ:Sg),cT K mg m H n su σ->cT K mg m' H' n' su σ
  | [],_,h=>h
  | none::su,_,h=>by
    obtain⟨v,r,e,h⟩:=h;exact⟨v,r,e,cT.up p su r h⟩
  | some u::su,_,h=>by
    obtain⟨v,r,e,h1,h⟩:=h;exact⟨v,r,e,RU.up p _ _ h1,cT.up p su r h⟩
theorem cT.get:∀ {su:En} {σ:Sg} {i:Nat} {u:U},cT K mg m H n su σ->su[i]?=some (some u)->∃ v,σ[i]?=some (some v)/\RU K mg m H n u v
  | [],_,_,_,_,e=>by simp at e
  | none::su,_,i,u,h,e=>by
    obtain⟨v,r,e',h⟩:=h;subst e';cases i with
    | zero=>simp at e
    | succ i=>simp at e ⊢;exact cT.get h e
  | some w::su,_,i,u,h,e=>by
    obtain⟨v,r,e',h1,h⟩:=h;subst e';cases i with
    | zero=>simp at e;subst e;exact⟨v,by simp,h1⟩
    | succ i=>simp at e ⊢;exact cT.get h e
theorem cT.set:∀ {su:En} {σ:Sg} (i:Nat) {u:U} {v:V},cT K mg m H n su σ->RU K mg m H n u v->cT K mg m H n (su.set i (some u)) (σ.set i (some v))
  | [],_,_,_,_,h,_=>by
    have e:_=[]:=h;subst e;exact rfl
  | none::su,_,0,u,v,h,hu=>by
    obtain⟨w,r,e',h⟩:=h;subst e';exact⟨v,r,rfl,hu,h⟩
  | some w::su,_,0,u,v,h,hu=>by
    obtain⟨z,r,e',h1,h⟩:=h;subst e';exact⟨v,r,rfl,hu,h⟩
  | none::su,_,i + 1,u,v,h,hu=>by
    obtain⟨w,r,e',h⟩:=h;subst e';exact⟨w,_,rfl,cT.set i h hu⟩
  | some w::su,_,i + 1,u,v,h,hu=>by
    obtain⟨z,r,e',h1,h⟩:=h;subst e';exact⟨z,_,rfl,h1,cT.set i h hu⟩
theorem cT.sF:∀ {su:En} {σ:Sg} (i:Nat) {v:Option V},cT K mg m H n su σ->cT K mg m H n (su.set i none) (σ.set i v)
  | [],_,_,_,h=>by
    have e:_=[]:=h;subst e;exact rfl
  | none::su,_,0,v,h=>by
    obtain⟨w,r,e',h⟩:=h;subst e';exact⟨v,r,rfl,h⟩
  | some w::su,_,0,v,h=>by
    obtain⟨z,r,e',h1,h⟩:=h;subst e';exact⟨v,r,rfl,h⟩
  | none::su,_,i + 1,v,h=>by
    obtain⟨w,r,e',h⟩:=h;subst e';exact⟨w,_,rfl,cT.sF i h⟩
  | some w::su,_,i + 1,v,h=>by
    obtain⟨z,r,e',h1,h⟩:=h;subst e';exact⟨z,_,rfl,h1,cT.sF i h⟩
end

section
variable {X:Cx} {α β γ δ:Type}
abbrev Rel (α β:Type):=(Nat->Addr)->Hp->Nat->α->β->Prop
def gX (X:Cx) (m:Nat->Addr) (H:Hp) (h:Hm) (RV:Rel α β) (u:α) (h':Hm) (Q:β->Hp->Prop):Prop:=
  ∀ v m' H',Up X.K m H h.length m' H' h'.length->RV m' H' h'.length u v->RH X.w X.K X.mg m' H' h'->Q v H'
def Fin (X:Cx) (σ:Sg) (m:Nat->Addr) (H:Hp) (h:Hm) (RV:Rel α β) (r:Rs α) (Q:β->Hp->Prop):Prop:=
  match r with
  | .ok u h'=>gX X m H h RV u h' Q
  | .ex c fs h'=>∃ W,Takes X W/\∀ cls d m' H',Up X.K m H h.length m' H' h'.length->RX X.K X.mg m' H' h'.length c fs cls d->RH X.w X.K X.mg m' H' h'->W cls d σ H'
  | .bad=>False
abbrev cW (X:Cx):Rel U V:=RU X.K X.mg
abbrev gj (X:Cx):Rel (List U) (List V):=a5 X.K X.mg
abbrev sV {α:Type}:Rel α α:=fun _ _ _ a b=>a=b
variable {σ:Sg} {m m1:Nat->Addr} {H H1:Hp} {h h1 h':Hm} {RV:Rel α β} {RV2:Rel γ δ} {u:α}
theorem gX.up {Q:β->Hp->Prop} (p:Up X.K m H h.length m1 H1 h1.length) (f:gX X m H h RV u h' Q):gX X m1 H1 h1 RV u h' Q:=fun v m' H' p'=>f v m' H' (p.trans p')
theorem gX.imp {Q Q':β->Hp->Prop} (f:gX X m H h RV u h' Q) (k:∀ v H',Q v H'->Q' v H'):gX X m H h RV u h' Q':=fun v m' H' p r rh=>k _ _ (f v m' H' p r rh)
theorem Fin.up {r:Rs α} {Q:β->Hp->Prop} (p:Up X.K m H h.length m1 H1 h1.length) (f:Fin X σ m H h RV r Q):Fin X σ m1 H1 h1 RV r Q:=by
  cases r with
  | ok u h'=>exact gX.up (X:=X) (RV:=RV) p f
  | ex c fs h'=>obtain⟨W,t,k⟩:=f;exact⟨W,t,fun cls d m' H' p'=>k cls d m' H' (p.trans p')⟩
  | bad=>exact f
theorem Fin.imp {r:Rs α} {Q Q':β->Hp->Prop} (f:Fin X σ m H h RV r Q) (k:∀ v H',Q v H'->Q' v H'):Fin X σ m H h RV r Q':=by
  cases r with
  | ok u h'=>exact gX.imp (X:=X) (RV:=RV) f k
  | ex c fs h'=>exact f
  | bad=>exact f
theorem Fin.bind {r:Rs α} {k:α->Hm->Rs γ} {Q:δ->Hp->Prop} (f:Fin X σ m H h RV2 (r.bind k) Q) :
    Fin X σ m H h RV r (fun v H1=>∃ u h1 m1,Up X.K m H h.length m1 H1 h1.length/\RV m1 H1 h1.length u v/\RH X.w X.K X.mg m1 H1 h1/\Fin X σ m1 H1 h1 RV2 (k u h1) Q):=by
  cases r with
  | ok u h'=>exact fun v m' H' p r rh=>⟨u,h',m',p,r,rh,Fin.up p f⟩
  | ex c fs h'=>exact f
  | bad=>exact f
def bZ:Option (α × Hm)->Rs α
  | some (a,h)=>.ok a h
  | none=>.bad
theorem Fin.some {o:Option (α × Hm)} {Q:β->Hp->Prop} (f:Fin X σ m H h RV (bZ o) Q):∃ u h',o=.some (u,h')/\gX X m H h RV u h' Q:=by
  cases o with
  | none=>exact False.elim f
  | some p=>obtain⟨u,h'⟩:=p;exact⟨u,h',rfl,f⟩
end

structure pB (P:Prop):Prop where
  out:P
instance {P:Prop}:CoeFun (pB P) (fun _=>P):=⟨pB.out⟩
abbrev lJ (X:Cx) (e:Expr) (σ:Sg) (H:Hp) (Q:VK):Prop:=pB (∀ pins s,Inv X pins σ H s->wpAny (model X.prog X.w) X.A (eval e X.env) (EP X pins σ Q) X.xe s)
abbrev G8 (X:Cx) (e:Expr) (σ:Sg) (H:Hp) (Q:Bool->Hp->Prop):Prop:=pB (∀ pins s,Inv X pins σ H s->wpAny (model X.prog X.w) X.A (isTrue e X.env (eval e X.env)) (TP X pins σ Q) X.xe s)
abbrev G9 (X:Cx) (e:Expr) (σ:Sg) (H:Hp) (Q:Bool->Hp->Prop):Prop:=pB (∀ whole pins s,Inv X pins σ H s->wpAny (model X.prog X.w) X.A (isTrue e X.env whole) (TP X pins σ Q) X.xe s)
abbrev B7 (X:Cx) (es:List Expr) (σ:Sg) (H:Hp) (Q:List V->Hp->Prop):Prop:=pB (∀ pos pins s,Inv X pins σ H s->wpAny (model X.prog X.w) X.A (spliced (backTo pos (starEach es X.env))) (AP X pins σ Q) X.xe s)
theorem bO {X:Cx} {e:Expr}:PE X e (lJ X e):=⟨fun pins s σ H Q I h=>h.out pins s I⟩
theorem iA {X:Cx} {e:Expr}:PT X e (G8 X e):=⟨fun pins s σ H Q I h=>h.out pins s I⟩
theorem wz {X:Cx} {e:Expr}:PW X e (G9 X e):=⟨fun wh pins s σ H Q I h=>h.out wh pins s I⟩
theorem i5 {X:Cx} {es:List Expr}:PA X es (B7 X es):=⟨fun pos pins s σ H Q I h=>h.out pos pins s I⟩
theorem da {X:Cx} {e:Expr} {t:TE} {σ:Sg} {H:Hp} {Q:VK} (p:PE X e t) (q:t σ H Q):lJ X e σ H Q:=⟨fun pins s I=>p.run pins s σ H Q I q⟩
theorem sE {X:Cx} {e:Expr} {t:TT} {σ:Sg} {H:Hp} {Q:Bool->Hp->Prop} (p:PT X e t) (q:t σ H Q):G8 X e σ H Q:=⟨fun pins s I=>p.run pins s σ H Q I q⟩
theorem mV {X:Cx} {e:Expr} {t:TT} {σ:Sg} {H:Hp} {Q:Bool->Hp->Prop} (p:PW X e t) (q:t σ H Q):G9 X e σ H Q:=⟨fun wh pins s I=>p.run wh pins s σ H Q I q⟩
theorem sC {X:Cx} {es:List Expr} {t:TA} {σ:Sg} {H:Hp} {Q:List V->Hp->Prop} (p:PA X es t) (q:t σ H Q):B7 X es σ H Q:=⟨fun pos pins s I=>p.run pos pins s σ H Q I q⟩

def SE (X:Cx) (e:Expr) (f:FE):Prop:=∀ su h σ H m,cT X.K X.mg m H h.length su σ->RH X.w X.K X.mg m H h->∀ Q,Fin X σ m H h (cW X) (f su h) Q->lJ X e σ H Q
def ST (X:Cx) (e:Expr) (f:FT):Prop:=∀ su h σ H m,cT X.K X.mg m H h.length su σ->RH X.w X.K X.mg m H h->∀ Q,Fin X σ m H h (sV) (f su h) Q->G8 X e σ H Q
def SW (X:Cx) (e:Expr) (f:FT):Prop:=∀ su h σ H m,cT X.K X.mg m H h.length su σ->RH X.w X.K X.mg m H h->∀ Q,Fin X σ m H h (sV) (f su h) Q->G9 X e σ H Q
def SA (X:Cx) (es:List Expr) (f:FA):Prop:=∀ su h σ H m,cT X.K X.mg m H h.length su σ->RH X.w X.K X.mg m H h->∀ Q,Fin X σ m H h (gj X) (f su h) Q->B7 X es σ H Q

section
variable {X:Cx} {a b c:Expr} {fa fb fc:FE} {pos:Pos}
def ret (u:U) (h:Hm):Rs U:=.ok u h
def ah (i:Nat):FE:=fun su h=>match su[i]? with
  | some (some u)=>.ok u h
  | _=>.bad
def cE (u:U):FE:=fun _ h=>.ok u h
theorem G6 (i:Nat) {x:Str} (hN:X.N[i]?=some x) (hv:Vis X.env.scope x) (hd:(x == ("__debug__" : Str))=false:=by decide) (hcd:(x == ("__classdict__" : Str))=false:=by decide):SE X (.Name x pos) (ah i):=by
  intro su h σ H m rs rh Q fin;refine da (pe_var hN hv hd hcd) ?_;unfold ah at fin;split at fin
  . rename_i u e
    obtain⟨v,e2,r⟩:=rs.get e;exact⟨v,e2,fin v m H .refl r rh⟩
  . exact False.elim fin
theorem az {i j}:SE X (.Constant (.int i) j pos) (cE (.int i)):=fun su h σ H m rs rh Q fin=>da pe_int (fin _ m H .refl rfl rh)
theorem mx {i j}:SE X (.Constant (.bool i) j pos) (cE (.bl i)):=fun su h σ H m rs rh Q fin=>da pe_bl (fin _ m H .refl rfl rh)
theorem kQ {j}:SE X (.Constant .none j pos) (cE .non):=fun su h σ H m rs rh Q fin=>da pe_non (fin _ m H .refl rfl rh)
theorem av {x:Str} {z:List Nat} {j} (e:x=S z:=by decide +kernel):SE X (.Constant (.str x) j pos) (cE (.str z)):=fun su h σ H m rs rh Q fin=>da pe_str (fin (.str x) m H .refl (by subst e;rfl) rh)
theorem Eh {x:Str} {y:Str} {z:List Nat} (hg:Gl X x) (hm:∃ t,X.mg x=some (.str y t)) (e:y=S z:=by decide +kernel) (hd:(x == ("__debug__" : Str))=false:=by decide):SE X (.Name x pos) (cE (.str z)):=fun su h σ H m rs rh Q fin=>by
  obtain⟨t,hm⟩:=hm;exact da (pe_glob (v:=.str y) hg hm ⟨t,rfl⟩ hd) (fin (.str y) m H .refl (by subst e;rfl) rh)
theorem G4 {x:Str} {f:Addr} (hg:Gl X x) (hm:X.mg x=some (.ref f)) (hd:(x == ("__debug__" : Str))=false:=by decide):SE X (.Name x pos) (cE (.glo x)):=fun su h σ H m rs rh Q fin=>
  da (pe_glob (v:=.ref f) hg hm rfl hd) (fin (.ref f) m H .refl ⟨f,rfl,hm⟩ rh)
theorem IP {x:Str} {n:String} (hg:Gl X x) (hm:X.mg x=none) (hv:bootBuiltins x=some (.type n)) (hn:x≠"__name__" := by decide) (hd:(x == ("__debug__" : Str))=false:=by decide):SE X (.Name x pos) (cE (.ty n)):=fun su h σ H m rs rh Q fin=>
  da (pe_bltn (v:=.ty n) hg hm hv rfl hn hd) (fin (.ty n) m H .refl rfl rh)

abbrev G2:=U->U->Hm->Option (U × Hm)
def SO (X:Cx) (f:Value->Value->Sem Value) (g:G2):Prop:=∀ m H h u w x y u' h' Q,RU X.K X.mg m H h.length u x->RU X.K X.mg m H h.length w y->RH X.w X.K X.mg m H h->g u w h=some (u',h') ->
  gX X m H h (cW X) u' h' Q->∃ r,OpR X f r/\r x y H Q
def aM (g:G2) (fa fb:FE):FE:=fun su h=>(fa su h).bind fun u h1=>(fb su h1).bind fun w h2=>bZ (g u w h2)
theorem two (ha:SE X a fa) (hb:SE X b fb) {g:G2} {f:Value->Value->Sem Value} (ho:SO X f g) {su:En} {h:Hm} {σ:Sg} {H:Hp} {m:Nat->Addr} (rs:cT X.K X.mg m H h.length su σ) (rh:RH X.w X.K X.mg m H h) {Q:VK}
    (fin:Fin X σ m H h (cW X) (aM g fa fb su h) Q):lJ X a σ H fun x H1=>lJ X b σ H1 fun y H2=>∃ r,OpR X f r/\r x y H2 Q:=by
  refine ha su h σ H m rs rh _ (fin.bind.imp fun x H1 ⟨u,h1,m1,up1,r1,rh1,fin1⟩=>?_)
  refine hb su h1 σ H1 m1 (rs.up up1) rh1 _ (fin1.bind.imp fun y H2 ⟨w,h2,m2,up2,r2,rh2,fin2⟩=>?_)
  obtain⟨u',h',e,post⟩:=fin2.some;exact ho m2 H2 h2 u w x y u' h' Q (RU.up up2 _ _ r1) r2 rh2 e post
theorem bt {op:Operator} {g:G2} (ho:SO X (binaryOp op) g) (ha:SE X a fa) (hb:SE X b fb):SE X (.BinOp a op b pos) (aM g fa fb):=by
  intro su h σ H m rs rh Q fin;refine⟨fun pins s I=>?_⟩
  exact wpAny_BinOp (binT bO bO I (two ha hb ho rs rh fin) fun v u s2 x y H2 I2 rx ry ⟨r,hr,q⟩=>hr pins s2 σ H2 x y v u Q I2 rx ry q)
theorem i8 {op:CmpOp} {g:G2} (ho:SO X (compareOp op) g) (ha:SE X a fa) (hb:SE X b fb) (hm:behindInMarks op b=false):SE X (.Compare a [op] [b] pos) (aM g fa fb):=by
  intro su h σ H m rs rh Q fin;refine⟨fun pins s I=>?_⟩
  exact wpAny_Compare1 (binT bO bO I (two ha hb ho rs rh fin) fun v u s2 x y H2 I2 rx ry ⟨r,hr,q⟩=>hr pins s2 σ H2 x y v u Q I2 rx ry q) hm
def cb (f:FE):FT:=fun su h=>(f su h).bind fun u h1=>match u with
  | .bl b=>.ok b h1
  | _=>.bad
theorem xc {σ:Sg} {m:Nat->Addr} {H:Hp} {h:Hm} {su:En} {f:FE} {Q:Bool->Hp->Prop} (fin:Fin X σ m H h sV (cb f su h) Q):Fin X σ m H h (cW X) (f su h) (fun x H'=>∃ k,x=.bl k/\Q k H'):=by
  refine(Fin.bind (RV:=cW X) fin).imp fun x H1 ⟨u,h1,m1,up1,r1,rh1,fin1⟩=>?_
  cases u with
  | bl b=>
    have e:x=.bl b:=by simpa only[RU] using r1
    exact⟨b,e,fin1 b m1 H1 .refl rfl rh1⟩
  | _=>exact False.elim fin1
theorem aZ {op:CmpOp} {g:G2} (ho:SO X (compareOp op) g) (ha:SE X a fa) (hb:SE X b fb) (hm:behindInMarks op b=false):ST X (.Compare a [op] [b] pos) (cb (aM g fa fb)):=by
  intro su h σ H m rs rh Q fin;refine⟨fun pins s I=>?_⟩
  have q:=two ha hb ho rs rh (xc fin)
  refine wpAny_isTrue_Compare1 (thn (q pins s I) fun v s1 ⟨x,H1,I1,r1,q1⟩=>thn (q1 pins s1 I1) fun u s2 ⟨y,H2,I2,r2,r,hr,q2⟩=>
    thn (hr pins s2 σ H2 x y v u _ I2 r1 r2 q2) fun c s3 ⟨z,H3,I3,r3,k,e,q3⟩=>?_) hm
  subst e;cases r3
  exact wpAny_truthy_bool ⟨H3,I3,q3⟩
def jn (g g':G2) (fa fb fc:FE):FE:=fun su h=>(fa su h).bind fun u h1=>(fb su h1).bind fun w h2=>(bZ (g u w h2)).bind fun r h3=>match r with
  | .bl true=>(fc su h3).bind fun z h4=>bZ (g' w z h4)
  | .bl false=>.ok (.bl false) h3
  | _=>.bad
theorem Ct {op op':CmpOp} {g g':G2} (ho:SO X (compareOp op) g) (ho':SO X (compareOp op') g') (ha:SE X a fa) (hb:SE X b fb) (hc:SE X c fc) (hm:lastMarks [op,op'] [b,c]=false:=by with_unfolding_all rfl):ST X (.Compare a [op,op'] [b,c] pos) (cb (jn g g' fa fb fc)):=by
  intro su h σ H m rs rh Q fin0;refine⟨fun pins s I=>?_⟩
  have fin:=xc fin0;refine isTrue_chain (thn (ha su h σ H m rs rh _ fin.bind pins s I) fun v s1 ⟨x,H1,I1,r1,u,h1,m1,up1,ru1,rh1,fin1⟩=>test_link (thn (hb su h1 σ H1 m1 (rs.up up1) rh1 _ fin1.bind pins s1 I1) fun u' s2 ⟨y,H2,I2,r2,w,h2,m2,up2,ru2,rh2,fin2⟩=>?_)) hm
  obtain⟨p,h3,e,post⟩:=(Fin.bind (RV:=cW X) fin2).some;obtain⟨r,hr,q⟩:=ho m2 H2 h2 u w x y p h3 _ (RU.up up2 _ _ ru1) ru2 rh2 e post;refine thn (hr pins s2 σ H2 x y v u' _ I2 r1 r2 q) fun d s3 ⟨z,H3,I3,r3,q3⟩=>?_
  obtain⟨p',h3',m3,up3,rp,rh3,fin3⟩:=q3;cases p' with
  | bl k=>
    have e:z=.bl k:=by simpa only[RU] using rp
    subst e;cases r3
    refine wpAny_truthy_bool ?_;cases k with
    | true=>
      refine ite_tt (test_last (thn (hc su h3' σ H3 m3 ((rs.up up1).up up2 |>.up up3) rh3 _ (Fin.bind (RV:=cW X) fin3) pins s3 I3) fun u4 s4 ⟨z4,H4,I4,r4,w4,h4,m4,up4,ru4,rh4,fin4⟩=>?_))
      obtain⟨u',h',e,post⟩:=fin4.some;obtain⟨r,hr,q⟩:=ho' m4 H4 h4 w w4 y z4 u' h' _ (RU.up up4 _ _ (RU.up up3 _ _ ru2)) ru4 rh4 e post;refine thn (hr pins s4 σ H4 y z4 _ u4 _ I4 r2 r4 q) fun d' s5 ⟨z2,H5,I5,r5,k2,e2,q5⟩=>?_
      subst e2;cases r5
      exact wpAny_truthy_bool ⟨H5,I5,q5⟩
    | false=>
      obtain⟨k',e',q'⟩:=fin3 _ m3 H3 .refl rfl rh3;cases e'
      exact ite_ff ⟨H3,I3,q'⟩
  | _=>exact False.elim fin3

def ki (u:U) (h:Hm):Option Bool:=match u with
  | .non=>some false
  | .bl b=>some b
  | .int i=>some (i != 0)
  | .str x=>if x.length<=16777216 then some (x.length != 0) else none
  | .tup us=>some (!us.isEmpty)
  | .ref i=>match h[i]? with
    | some (.lst us)=>some (!us.isEmpty)
    | some (.fro us)=>some (!us.isEmpty)
    | some (.cq kvs)=>some (!kvs.isEmpty)
    | _=>none
  | _=>none
theorem a5.isEmpty {K:PySem.W.Frag} {mg:Str->Option Value} {m:Nat->Addr} {H:Hp} {n:Nat} {us:List U} {vs:List V} (r:a5 K mg m H n us vs):us.isEmpty=vs.isEmpty:=by
  have e:=r.length;cases us<;>cases vs<;>simp_all
theorem lP {m:Nat->Addr} {H:Hp} {h:Hm} {u:U} {x:V} {k:Bool} (r:RU X.K X.mg m H h.length u x) (rh:RH X.w X.K X.mg m H h) (e:ki u h=some k):TruV X.K x H k:=by
  have hs:sizeLine=16777216:=sizeLine_eq;cases u with
  | non=>
    simp only[RU] at r;subst r
    cases e
    exact rfl
  | bl b=>simp only[RU] at r;subst r;simp[ki] at e;exact e.symm
  | int i=>simp only[RU] at r;subst r;simp[ki] at e;exact e.symm
  | str z=>
    simp only[RU] at r;subst r;simp only[ki] at e;split at e
    . rename_i hz
      refine⟨by rw[hs];simpa[PySem.Str.length] using hz,?_⟩
      have e2:=Option.some.inj e;rw[<- e2];show(z.length != 0)=(((z.toArray.size:Nat):Int) != 0);rw[List.size_toArray];cases z with
      | nil=>rfl
      | cons a t=>
        have h1:((a::t).length != 0)=true:=by simp
        have h2:(((a::t).length:Int) != 0)=true:=by
          simp only[bne_iff_ne,ne_eq,List.length_cons];omega
        rw[h1,h2]
    . cases e
  | ty n=>simp[ki] at e
  | glo n=>simp[ki] at e
  | adr n=>simp[ki] at e
  | tup us=>
    simp only[RU] at r;obtain⟨a,xs,e1,t,rs⟩:=r;subst e1;refine .inr (.inl ⟨xs,t,?_⟩);rw[<- rs.isEmpty];simpa[ki] using e.symm
  | ref i=>
    simp only[RU] at r;obtain⟨hi,e1⟩:=r;subst e1;simp only[ki] at e;split at e
    . rename_i us hq
      obtain⟨xs,e2,rs⟩:=rh.at_ i _ hq;refine .inl ⟨xs,SqL.of e2,?_⟩;rw[<- rs.isEmpty];exact(Option.some.inj e).symm
    . rename_i us hq
      obtain⟨xs,e2,rs⟩:=rh.at_ i _ hq;refine .inl ⟨xs,e2.sq,?_⟩;rw[<- rs.isEmpty];exact(Option.some.inj e).symm
    . rename_i kvs hq
      obtain⟨ks,e2,rs⟩:=rh.at_ i _ hq;refine .inr (.inr ⟨ks,e2,?_⟩)
      have e3:kvs.isEmpty=ks.isEmpty:=by
        cases kvs with
        | nil=>
          have z:ks=[]:=rs;subst z;rfl
        | cons p t=>
          obtain⟨k1,u1⟩:=p;obtain⟨q,v,r,z,_⟩:=rs;subst z;rfl
      rw[<- e3];exact(Option.some.inj e).symm
    . cases e
def eV (f:FE):FT:=fun su h=>(f su h).bind fun u h1=>match ki u h1 with
  | some k=>.ok k h1
  | none=>.bad
theorem C7 {σ:Sg} {m:Nat->Addr} {H:Hp} {h:Hm} {su:En} {f:FE} {Q:Bool->Hp->Prop} (fin:Fin X σ m H h sV (eV f su h) Q):Fin X σ m H h (cW X) (f su h) (fun x H'=>∃ k,TruV X.K x H' k/\Q k H'):=by
  refine(Fin.bind (RV:=cW X) fin).imp fun x H1 ⟨u,h1,m1,up1,r1,rh1,fin1⟩=>?_
  split at fin1
  . rename_i k e
    exact⟨k,lP r1 rh1 e,fin1 k m1 H1 .refl rfl rh1⟩
  . exact False.elim fin1
theorem gy (ha:SE X a fa) (he:∀ whole,isTrue a X.env whole=(do let v <- whole;standAt a.pos;holding [v] (truthy v)):=by intro _;rfl):ST X a (eV fa):=by
  intro su h σ H m rs rh Q fin;exact sE (pt_truth bO he) (ha su h σ H m rs rh _ (C7 fin))

variable {rest:List Expr} {ta tb:FT}
def tq (fa fb:FE):FE:=fun su h=>(fa su h).bind fun u h1=>match ki u h1 with
  | some true=>fb su h1
  | some false=>.ok u h1
  | none=>.bad
def CJ (fa fb:FE):FE:=fun su h=>(fa su h).bind fun u h1=>match ki u h1 with
  | some true=>.ok u h1
  | some false=>fb su h1
  | none=>.bad
def hW (t:FT):FT:=fun su h=>(t su h).bind fun k h1=>.ok (!k) h1
def kc (ta tb:FT):FT:=fun su h=>(ta su h).bind fun k h1=>if k=true then tb su h1 else .ok false h1
def uK (ta tb:FT):FT:=fun su h=>(ta su h).bind fun k h1=>if k=true then .ok true h1 else tb su h1
def pC (t:FT) (fa fb:FE):FE:=fun su h=>(t su h).bind fun k h1=>if k=true then fa su h1 else fb su h1
theorem wC {op} (ha:SE X a fa):SE X (.BoolOp op [a] pos) fa:=fun su h σ H m rs rh Q fin=>da (pe_one bO) (ha su h σ H m rs rh Q fin)
theorem G3 (ha:SE X a fa) (hb:SE X (.BoolOp .And (b::rest) pos) fb):SE X (.BoolOp .And (a::b::rest) pos) (tq fa fb):=by
  intro su h σ H m rs rh Q fin;refine da (pe_andT bO bO) (ha su h σ H m rs rh _ (fin.bind.imp fun x H1 ⟨u,h1,m1,up1,r1,rh1,fin1⟩=>?_))
  split at fin1
  . rename_i e
    exact⟨true,lP r1 rh1 e,iteT (hb su h1 σ H1 m1 (rs.up up1) rh1 Q fin1)⟩
  . rename_i e
    exact⟨false,lP r1 rh1 e,iteF (fin1 x m1 H1 .refl r1 rh1)⟩
  . exact False.elim fin1
theorem Fg (ha:SE X a fa) (hb:SE X (.BoolOp .Or (b::rest) pos) fb):SE X (.BoolOp .Or (a::b::rest) pos) (CJ fa fb):=by
  intro su h σ H m rs rh Q fin;refine da (pe_orT bO bO) (ha su h σ H m rs rh _ (fin.bind.imp fun x H1 ⟨u,h1,m1,up1,r1,rh1,fin1⟩=>?_))
  split at fin1
  . rename_i e
    exact⟨true,lP r1 rh1 e,iteT (fin1 x m1 H1 .refl r1 rh1)⟩
  . rename_i e
    exact⟨false,lP r1 rh1 e,iteF (hb su h1 σ H1 m1 (rs.up up1) rh1 Q fin1)⟩
  . exact False.elim fin1
theorem mY (ha:ST X a ta):SW X (.BoolOp .And [a] pos) ta:=fun su h σ H m rs rh Q fin=>mV (pw_and1 iA) (ha su h σ H m rs rh Q fin)
theorem o6 (ha:ST X a ta):SW X (.BoolOp .Or [a] pos) ta:=fun su h σ H m rs rh Q fin=>mV (pw_or1 iA) (ha su h σ H m rs rh Q fin)
theorem o5 (ha:ST X a ta) (hb:SW X (.BoolOp .And (b::rest) pos) tb):SW X (.BoolOp .And (a::b::rest) pos) (kc ta tb):=by
  intro su h σ H m rs rh Q fin;refine mV (pw_and iA wz) (ha su h σ H m rs rh _ ((Fin.bind (RV:=sV) fin).imp fun k H1 ⟨k',h1,m1,up1,r1,rh1,fin1⟩=>?_))
  cases r1
  cases k with
  | true=>rw[if_pos rfl] at fin1 ⊢;exact hb su h1 σ H1 m1 (rs.up up1) rh1 Q fin1
  | false=>rw[if_neg Bool.false_ne_true] at fin1 ⊢;exact fin1 _ m1 H1 .refl rfl rh1
theorem vi (ha:ST X a ta) (hb:SW X (.BoolOp .Or (b::rest) pos) tb):SW X (.BoolOp .Or (a::b::rest) pos) (uK ta tb):=by
  intro su h σ H m rs rh Q fin;refine mV (pw_or iA wz) (ha su h σ H m rs rh _ ((Fin.bind (RV:=sV) fin).imp fun k H1 ⟨k',h1,m1,up1,r1,rh1,fin1⟩=>?_))
  cases r1
  cases k with
  | true=>rw[if_pos rfl] at fin1 ⊢;exact fin1 _ m1 H1 .refl rfl rh1
  | false=>rw[if_neg Bool.false_ne_true] at fin1 ⊢;exact hb su h1 σ H1 m1 (rs.up up1) rh1 Q fin1
theorem lM (h:SW X a ta):ST X a ta:=fun su h' σ H m rs rh Q fin=>sE wz.pt (h su h' σ H m rs rh Q fin)
theorem jP (ha:ST X a ta):ST X (.UnaryOp .Not a pos) (hW ta):=by
  intro su h σ H m rs rh Q fin;refine sE (pt_not iA) (ha su h σ H m rs rh _ ((Fin.bind (RV:=sV) fin).imp fun k H1 ⟨k',h1,m1,up1,r1,rh1,fin1⟩=>?_))
  cases r1
  exact fin1 _ m1 H1 .refl rfl rh1
theorem my (hc:ST X c ta) (ha:SE X a fa) (hb:SE X b fb):SE X (.IfExp c a b pos) (pC ta fa fb):=by
  intro su h σ H m rs rh Q fin;refine da (pe_ifExp iA bO bO) (hc su h σ H m rs rh _ ((Fin.bind (RV:=sV) fin).imp fun k H1 ⟨k',h1,m1,up1,r1,rh1,fin1⟩=>?_))
  cases r1
  cases k with
  | true=>rw[if_pos rfl] at fin1 ⊢;exact ha su h1 σ H1 m1 (rs.up up1) rh1 Q fin1
  | false=>rw[if_neg Bool.false_ne_true] at fin1 ⊢;exact hb su h1 σ H1 m1 (rs.up up1) rh1 Q fin1

variable {e:Expr} {es:List Expr} {f:FE} {fr:FA}
def ai:FA:=fun _ h=>.ok [] h
def aa (f:FE) (fr:FA):FA:=fun su h=>(f su h).bind fun u h1=>(fr su h1).bind fun us h2=>.ok (u::us) h2
def cR (u:U) (h:Hm):Option (List U):=match u with
  | .tup us=>some us
  | .ref i=>match h[i]? with
    | some (.lst us)=>some us
    | some (.fro us)=>some us
    | _=>none
  | _=>none
def fG (f:FE) (fr:FA):FA:=fun su h=>(f su h).bind fun u h1=>match cR u h1 with
  | some us=>(fr su h1).bind fun ws h2=>.ok (us++ws) h2
  | none=>.bad
theorem hJ {W0:World} {K:PySem.W.Frag} {mg:Str->Option Value} {m:Nat->Addr} {H:Hp} {h:Hm} {u:U} {x:V} {us:List U} (r:RU K mg m H h.length u x) (rh:RH W0 K mg m H h) (e:cR u h=some us) :
    ∃ p xs,x=.ref p/\(SqT K H p xs\/SqL K H p xs)/\a5 K mg m H h.length us xs:=by
  cases u with
  | tup ws=>
    simp only[RU] at r;obtain⟨a,xs,e1,t,rs⟩:=r;cases e
    exact⟨a,xs,e1,.inl t,rs⟩
  | ref i=>
    simp only[RU] at r;simp only[cR] at e;split at e
    . rename_i ws hq
      cases e
      obtain⟨xs,e2,rs⟩:=rh.at_ i _ hq;exact⟨_,xs,r.2,.inr (SqL.of e2),rs⟩
    . rename_i ws hq
      cases e
      obtain⟨xs,e2,rs⟩:=rh.at_ i _ hq;exact⟨_,xs,r.2,.inr e2.sq,rs⟩
    . cases e
  | _=>cases e
theorem aj:SA X [] ai:=fun su h σ H m rs rh Q fin=>sC pa_nil (fin [] m H .refl rfl rh)
theorem af (he:SE X e f) (hr:SA X es fr) (hs:starEach (e::es) X.env=(false,eval e X.env)::starEach es X.env:=by rfl):SA X (e::es) (aa f fr):=by
  intro su h σ H m rs rh Q fin;refine sC (pa_cons bO i5 hs) (he su h σ H m rs rh _ ((Fin.bind (RV:=cW X) fin).imp fun x H1 ⟨u,h1,m1,up1,r1,rh1,fin1⟩=>?_))
  refine hr su h1 σ H1 m1 (rs.up up1) rh1 _ ((Fin.bind (RV:=gj X) fin1).imp fun xs H2 ⟨us,h2,m2,up2,r2,rh2,fin2⟩=>?_)
  exact fin2 (x::xs) m2 H2 .refl (by simp only[a5];exact⟨x,xs,rfl,RU.up up2 _ _ r1,r2⟩) rh2
theorem j8 {p:Pos} (he:SE X e f) (hr:SA X es fr):SA X (.Starred e p::es) (fG f fr):=by
  intro su h σ H m rs rh Q fin;refine sC (StX.pa_star bO i5) (he su h σ H m rs rh _ ((Fin.bind (RV:=cW X) fin).imp fun x H1 ⟨u,h1,m1,up1,r1,rh1,fin1⟩=>?_))
  split at fin1
  . rename_i us e
    obtain⟨q,xs,e1,t,rxs⟩:=hJ r1 rh1 e;refine⟨q,xs,e1,t,?_⟩;refine hr su h1 σ H1 m1 (rs.up up1) rh1 _ ((Fin.bind (RV:=gj X) fin1).imp fun ys H2 ⟨ws,h2,m2,up2,r2,rh2,fin2⟩=>?_)
    exact fin2 (xs++ys) m2 H2 .refl (a5.append (a5.up up2 _ _ rxs) r2) rh2
  . exact False.elim fin1
def cU (fr:FA):FE:=fun su h=>(fr su h).bind fun us h1=>if us.length<=16777216 then .ok (.tup us) h1 else .bad
def pM (us:List U) (h:Hm):Rs U:=if us.length<=16777216 then .ok (.ref h.length) (h++[.lst us]) else .bad
def aP (fr:FA):FE:=fun su h=>(fr su h).bind pM
theorem len_app {h:Hm} {o:O}:(h++[o]).length=h.length + 1:=by simp
theorem iN {m:Nat->Addr} {H:Hp} {h:Hm} {us:List U} {xs:List V} {Q:VK} (r:a5 X.K X.mg m H h.length us xs) (rh:RH X.w X.K X.mg m H h) (post:gX X m H h (cW X) (.tup us) h Q):∀ p,H p=none->Q (.ref p) (upd H p (.tup xs)):=fun p hp=>
  post (.ref p) m _ (Up.one hp) (by simp only[cW,RU];exact⟨p,xs,rfl,SqT.of upd_same,a5.up (Up.one hp) _ _ r⟩) (rh.one hp)
theorem iM {m:Nat->Addr} {H:Hp} {h:Hm} {us:List U} {xs:List V} {Q:VK} (r:a5 X.K X.mg m H h.length us xs) (rh:RH X.w X.K X.mg m H h) (post:gX X m H h (cW X) (.ref h.length) (h++[.lst us]) Q):∀ p,H p=none->Q (.ref p) (upd H p (.lst xs)):=fun p hp=>
  post (.ref p) (ext m h.length p) _ (by rw[len_app];exact Up.new hp) (by rw[len_app];simp only[cW,RU];exact⟨Nat.lt_succ_self _,by rw[cX]⟩)
    (rh.new hp ⟨xs,upd_same,a5.up (Up.new hp) _ _ r⟩)
theorem dj {x1} (ha:SA X es fr):SE X (.Tuple es x1 pos) (cU fr):=by
  intro su h σ H m rs rh Q fin;refine da (pe_tup i5) (ha su h σ H m rs rh _ ((Fin.bind (RV:=gj X) fin).imp fun xs H1 ⟨us,h1,m1,up1,r1,rh1,fin1⟩=>?_))
  split at fin1
  . rename_i hl
    exact⟨by rw[<- r1.length,sizeLine_eq];exact hl,iN r1 rh1 fin1⟩
  . exact False.elim fin1
theorem aR (ha:SA X es fr):SE X (.List es pos) (aP fr):=by
  intro su h σ H m rs rh Q fin;refine da (pe_lst i5) (ha su h σ H m rs rh _ ((Fin.bind (RV:=gj X) fin).imp fun xs H1 ⟨us,h1,m1,up1,r1,rh1,fin1⟩=>?_))
  unfold pM at fin1;split at fin1
  . rename_i hl
    exact⟨by rw[<- r1.length,sizeLine_eq];exact hl,iM r1 rh1 fin1⟩
  . exact False.elim fin1
end
end UL

namespace UL
open PySem PySem.Spec PyProof.Rows L2
variable [bo]
section
variable {X:Cx}
theorem c8:(sizeLine:Nat)=16777216:=sizeLine_eq

def cP:G2:=fun u w h=>match u,w with
  | .int i,.int j=>some (.int (i + j),h)
  | .str x,.str y=>if x.length + y.length<=16777216 then some (.str (x++y),h) else none
  | .tup us,.tup ws=>if us.length + ws.length<=16777216 then some (.tup (us++ws),h) else none
  | .ref i,.ref j=>match h[i]?,h[j]? with
    | some (.lst us),some (.lst ws)=>if us.length + ws.length<=16777216 then some (.ref h.length,h++[.lst (us++ws)]) else none
    | _,_=>none
  | _,_=>none
def zH:G2:=fun u w h=>match u,w with
  | .int i,.int j=>some (.int (i - j),h)
  | _,_=>none
def small64 (i:Int):Bool:=decide (-(2 ^ 64) < i) && decide (i < 2 ^ 64)
def jh:G2:=fun u w h=>match u,w with
  | .int i,.int j=>if small64 i || small64 j then some (.int (i * j),h) else none
  | .str x,.int k=>if decide (-1000000<=k) && decide (k<=1000000) && decide (x.length * k.toNat<=16777216) then some (.str (List.replicate k.toNat x).flatten,h) else none
  | .ref i,.int k=>match h[i]? with
    | some (.lst us)=>if decide (-1000000<=k) && decide (k<=1000000) && decide (us.length * k.toNat<=16777216) then some (.ref h.length,h++[.lst (List.replicate k.toNat us).flatten]) else none
    | _=>none
  | .tup us,.int k=>if decide (1<=us.length) && decide (2<=k) && decide (k<=1000) && decide (us.length<=1000) then some (.tup (List.replicate k.toNat us).flatten,h) else none
  | _,_=>none
def og:G2:=fun u w h=>match u,w with
  | .int i,.int j=>if 0 < j then some (.int (i % j),h) else none
  | _,_=>none
def tR:G2:=fun u w h=>match u,w with
  | .int i,.int j=>if 0 < j/\j < 1073741824 then some (.int (i / j),h) else none
  | _,_=>none
def DZ:G2:=fun u w h=>match u,w with
  | .int i,.int j=>if 0<=j/\j<=1000000/\small64 i=true then some (.int (i ^ j.toNat),h) else none
  | _,_=>none

theorem EN (x y:List Nat):S x++S y=S (x++y):=by
  show Str.append (S x) (S y)=S (x++y);simp[Str.append,S]
theorem S_len (x:List Nat):(S x).length=x.length:=by simp[Str.length,S]
theorem S_inj {x y:List Nat} (h:S x=S y):x=y:=by
  have e:=congrArg (fun z:Str=>z.cps.toList) h
  simpa[S] using e
theorem oJ {m:Nat->Addr} {H:Hp} {h:Hm} {u:U} {v:V} {Q:VK} (r:RU X.K X.mg m H h.length u v) (rh:RH X.w X.K X.mg m H h) (post:gX X m H h (cW X) u h Q):Q v H:=post v m H .refl r rh
theorem cj {m:Nat->Addr} {H:Hp} {h:Hm} {b:Bool} {Q:VK} (rh:RH X.w X.K X.mg m H h) (post:gX X m H h (cW X) (.bl b) h Q):Q (.bl b) H:=post (.bl b) m H .refl (by simp only[cW,RU]) rh
theorem post_int {m:Nat->Addr} {H:Hp} {h:Hm} {b:Int} {Q:VK} (rh:RH X.w X.K X.mg m H h) (post:gX X m H h (cW X) (.int b) h Q):Q (.int b) H:=post (.int b) m H .refl (by simp only[cW,RU]) rh
theorem post_str {m:Nat->Addr} {H:Hp} {h:Hm} {b:List Nat} {Q:VK} (rh:RH X.w X.K X.mg m H h) (post:gX X m H h (cW X) (.str b) h Q):Q (.str (S b)) H:=post (.str (S b)) m H .refl (by simp only[cW,RU]) rh
theorem bG:SO X (binaryOp .Add) cP:=by
  intro m H h u w x y u' h' Q r1 r2 rh e post;cases u with
  | int i=>
    cases w with
    | int j=>
      cases e
      simp only[RU] at r1 r2;subst r1 r2;exact⟨_,op_add,i,j,rfl,rfl,post_int rh post⟩
    | _=>cases e
  | str a=>
    cases w with
    | str b=>
      simp only[cP] at e;split at e
      . rename_i hl
        cases e
        simp only[RU] at r1 r2;subst r1 r2;exact⟨_,op_add_str,_,_,rfl,rfl,by rw[S_len,S_len,c8];exact hl,by rw[EN];exact post_str rh post⟩
      . cases e
    | _=>cases e
  | tup us=>
    cases w with
    | tup ws=>
      simp only[cP] at e;split at e
      . rename_i hl
        cases e
        have q1:=r1;have q2:=r2;simp only[RU] at r1 r2;obtain⟨a,xs,e1,t1,s1⟩:=r1;obtain⟨b,ys,e2,t2,s2⟩:=r2;subst e1 e2;refine⟨_,op_catA,a,b,xs,ys,rfl,rfl,t1,t2,by rw[<- s1.length,<- s2.length,c8];exact hl,fun z=>?_,fun z z'=>?_,fun z z' p hp=>?_⟩
        . have:us=[]:=by
            have:=s1.length;subst z;exact List.eq_nil_of_length_eq_zero (by simpa using this)
          subst this;exact oJ q2 rh post
        . have:ws=[]:=by
            have:=s2.length;subst z';exact List.eq_nil_of_length_eq_zero (by simpa using this)
          subst this;rw[List.append_nil] at post;exact oJ q1 rh post
        . exact iN (a5.append s1 s2) rh post p hp
      . cases e
    | _=>cases e
  | ref i=>
    cases w with
    | ref j=>
      simp only[cP] at e;split at e
      . rename_i us ws g1 g2
        split at e
        . rename_i hl
          cases e
          simp only[RU] at r1 r2;obtain⟨a,ea,s1⟩:=rh.at_ i _ g1;obtain⟨b,eb,s2⟩:=rh.at_ j _ g2;exact⟨_,op_cat,m i,m j,a,b,r1.2,r2.2,ea,eb,by rw[<- s1.length,<- s2.length,c8];exact hl,iM (a5.append s1 s2) rh post⟩
        . cases e
      . cases e
    | _=>cases e
  | _=>cases e
theorem Cq:SO X (binaryOp .Sub) zH:=by
  intro m H h u w x y u' h' Q r1 r2 rh e post;unfold zH at e;split at e
  . rename_i i j
    cases e
    simp only[RU] at r1 r2;subst r1 r2;exact⟨_,op_sub,i,j,rfl,rfl,post_int rh post⟩
  . cases e
theorem kT {i:Int} (h:small64 i=true):-(2 ^ 64) < i/\i < 2 ^ 64:=by
  unfold small64 at h;rw[Bool.and_eq_true] at h;exact⟨of_decide_eq_true h.1,of_decide_eq_true h.2⟩
theorem u7 {i:Int} (h:small64 i=true):i.natAbs < 2 ^ 64:=by
  obtain⟨h1,h2⟩:=kT h;omega
theorem foldl_rep (a:Array Nat):∀ (k:Nat) (acc:Array Nat),(List.replicate k a).foldl (·++·) acc=acc++((List.replicate k a.toList).flatten).toArray:=by
  intro k
  induction k with
  | zero=>intro acc;simp
  | succ k ih=>
    intro acc;rw[List.replicate_succ,List.foldl_cons,ih,List.replicate_succ,List.flatten_cons,Array.append_assoc]
    congr 1
    cases a
    simp
theorem wt:OpR X (binaryOp .Mult) (fun x y H Q=>∃ (a:List Nat) (k:Int),x=.str (S a)/\y=.int k/\-1000000<=k/\k<=1000000/\a.length * k.toNat<=16777216/\Q (.str (S (List.replicate k.toNat a).flatten)) H):=by
  intro pins s σ H x y v u Q I rx ry h;obtain⟨a,k,rfl,rfl,h1,h2,h3,q⟩:=h;obtain⟨t,rfl⟩:=rx;obtain⟨t',rfl⟩:=ry;have hz:sizeLine=16777216:=sizeLine_eq
  refine PySem.P.mul_str (by
      have q1:¬ k < -(2 ^ 63:Int):=by omega
      have q2:¬ k ≥ 2 ^ 63:=by omega
      rw[decide_eq_false q1,decide_eq_false q2];rfl) (fun h4 h5=>?_) (fun h4 h5=>?_) ?_
  . rw[S_len]
    have h6:(a.length:Int) * k<=2 ^ 63 - 1:=by
      have e:k=(k.toNat:Int):=by omega
      rw[e,<- Int.natCast_mul];omega
    have h7:(a.length:Int)<=(2 ^ 63 - 1) / k:=(Int.le_ediv_iff_mul_le (by omega)).mpr h6
    omega
  . rw[S_len]
    unfold PySem.Builtin.Str.tooLong;rw[decide_eq_false (by omega)]
  . by_cases h4:k < 1
    . rw[if_pos h4]
      have e:k.toNat=0:=by omega
      rw[e] at q;exact⟨by decide,⟨.str (S []),H,I.tok _,⟨_,rfl⟩,q⟩⟩
    . rw[if_neg h4]
      by_cases h5:(k == 1 || (S a).length == 0)=true
      . rw[if_pos h5]
        rw[Bool.or_eq_true,beq_iff_eq,beq_iff_eq,S_len] at h5
        have e:(List.replicate k.toNat a).flatten=a:=by
          rcases h5 with h5 | h5
          . subst h5;simp
          . have:a=[]:=List.eq_nil_of_length_eq_zero h5
            subst this;simp
        rw[e] at q;exact⟨.str (S a),H,I,⟨t,rfl⟩,q⟩
      . rw[if_neg h5]
        refine⟨?_,⟨.str (S (List.replicate k.toNat a).flatten),H,I.tok _,⟨s.toks,?_⟩,q⟩⟩
        . rw[show(Str.mk ((List.replicate k.toNat (S a).cps).foldl (·++·) #[])).length=(List.replicate k.toNat a).flatten.length from by
            show Array.size _=_;rw[foldl_rep];simp]
          rw[List.length_flatten,List.map_replicate,List.sum_replicate_nat];have:=Nat.mul_comm a.length k.toNat;rw[hz];omega
        . congr 1
          show Str.mk _=Str.mk _;rw[foldl_rep];simp
theorem a5.rep {K:PySem.W.Frag} {mg:Str->Option Value} {m:Nat->Addr} {H:Hp} {n:Nat} {us:List U} {vs:List V} (r:a5 K mg m H n us vs):∀ k:Nat,a5 K mg m H n (List.replicate k us).flatten (List.replicate k vs).flatten
  | 0=>by simp[a5]
  | k + 1=>by
    rw[List.replicate_succ,List.replicate_succ,List.flatten_cons,List.flatten_cons];exact a5.append r (a5.rep r k)
theorem kU:SO X (binaryOp .Mult) jh:=by
  intro m H h u w x y u' h' Q r1 r2 rh e post;unfold jh at e;split at e
  . rename_i i j
    split at e
    . rename_i hs
      cases e
      simp only[RU] at r1 r2;subst r1 r2;rw[Bool.or_eq_true] at hs;exact⟨_,op_mul,i,j,rfl,rfl,hs.imp kT kT,post_int rh post⟩
    . cases e
  . rename_i a k
    split at e
    . rename_i hs
      cases e
      simp only[RU] at r1 r2;subst r1 r2;simp only[Bool.and_eq_true,decide_eq_true_eq] at hs;exact⟨_,wt,a,k,rfl,rfl,hs.1.1,hs.1.2,hs.2,post_str rh post⟩
    . cases e
  . rename_i i k
    split at e
    . rename_i us hq
      split at e
      . rename_i hs
        cases e
        simp only[RU] at r1 r2;obtain⟨xs,ex,rs⟩:=rh.at_ i _ hq;simp only[Bool.and_eq_true,decide_eq_true_eq] at hs;exact⟨_,op_rep,m i,k,xs,r1.2,r2,ex,by omega,by omega,by rw[<- rs.length,c8];exact hs.2,iM (rs.rep _) rh post⟩
      . cases e
    . cases e
  . rename_i us k
    split at e
    . rename_i hs
      cases e
      simp only[RU] at r1 r2;obtain⟨a,xs,e1,t1,s1⟩:=r1;subst e1;simp only[Bool.and_eq_true,decide_eq_true_eq] at hs;obtain⟨⟨⟨h1,h2⟩,h3⟩,h4⟩:=hs;have hl:=s1.length;exact⟨_,op_repT,a,k,xs,rfl,r2,t1,fun z=>by rw[z,List.length_nil] at hl;omega,h2,h3,by omega,fun p hp=>iN (s1.rep _) rh post p hp⟩
    . cases e
  . cases e
theorem oZ:SO X (binaryOp .Mod) og:=by
  intro m H h u w x y u' h' Q r1 r2 rh e post;unfold og at e;split at e
  . rename_i i j
    split at e
    . rename_i hs
      cases e
      simp only[RU] at r1 r2;subst r1 r2;exact⟨_,op_mod,i,j,rfl,rfl,hs,post_int rh post⟩
    . cases e
  . cases e
theorem Eu:SO X (binaryOp .FloorDiv) tR:=by
  intro m H h u w x y u' h' Q r1 r2 rh e post;unfold tR at e;split at e
  . rename_i i j
    split at e
    . rename_i hs
      cases e
      simp only[RU] at r1 r2;subst r1 r2;exact⟨_,op_fdiv,i,j,rfl,rfl,hs,post_int rh post⟩
    . cases e
  . cases e
theorem Hh:SO X (binaryOp .Pow) DZ:=by
  intro m H h u w x y u' h' Q r1 r2 rh e post;unfold DZ at e;split at e
  . rename_i i j
    split at e
    . rename_i hs
      cases e
      simp only[RU] at r1 r2;subst r1 r2;exact⟨_,op_pow,i,j,rfl,rfl,⟨hs.1,hs.2.1,u7 hs.2.2⟩,post_int rh post⟩
    . cases e
  . cases e

def tE (p:Int->Int->Bool):G2:=fun u w h=>match u,w with
  | .int i,.int j=>some (.bl (p i j),h)
  | _,_=>none
abbrev Gu:G2:=tE fun i j=>decide (i < j)
abbrev JW:G2:=tE fun i j=>decide (i<=j)
abbrev JT:G2:=tE fun i j=>decide (j < i)
abbrev KH:G2:=tE fun i j=>decide (j<=i)
theorem mX {f:Value->Value->Sem Value} {p:Int->Int->Bool} (o:OpR X f (rI0 fun i j=>.bl (p i j))):SO X f (tE p):=by
  intro m H h u w x y u' h' Q r1 r2 rh e post;unfold tE at e;split at e
  . rename_i i j
    cases e
    simp only[RU] at r1 r2;subst r1 r2;exact⟨_,o,i,j,rfl,rfl,cj rh post⟩
  . cases e
theorem qQ:SO X (compareOp .Lt) Gu:=mX op_lt
theorem Fj:SO X (compareOp .LtE) JW:=mX op_le
theorem Fi:SO X (compareOp .Gt) JT:=mX op_gt
theorem IZ:SO X (compareOp .GtE) KH:=mX op_ge
def Jq:U->Bool
  | .non=>true
  | _=>false
def Az (neg:Bool):G2:=fun u w h=>match w with
  | .non=>some (.bl (if neg then !Jq u else Jq u),h)
  | _=>none
theorem GY {K:PySem.W.Frag} {mg:Str->Option Value} {m:Nat->Addr} {H:Hp} {n:Nat} {u:U} {x:V} (r:RU K mg m H n u x):decide (x=.non)=Jq u:=by
  cases u with
  | non=>simp only[RU] at r;subst r;rfl
  | bl=>simp only[RU] at r;subst r;rfl
  | int=>simp only[RU] at r;subst r;rfl
  | str=>simp only[RU] at r;subst r;rfl
  | ty=>simp only[RU] at r;subst r;rfl
  | glo=>simp only[RU] at r;obtain⟨a,e,_⟩:=r;subst e;rfl
  | adr=>simp only[RU] at r;subst r;rfl
  | ref=>simp only[RU] at r;obtain⟨_,e⟩:=r;subst e;rfl
  | tup=>simp only[RU] at r;obtain⟨a,xs,e,_⟩:=r;subst e;rfl
theorem Hg:SO X (compareOp .Is) (Az false):=by
  intro m H h u w x y u' h' Q r1 r2 rh e post;unfold Az at e;split at e
  . simp only[RU] at r2
    subst r2;cases e
    refine⟨_,op_isN,rfl,?_⟩;rw[GY r1];exact cj rh post
  . cases e
def tK (f:U->Option PyData):List U->Option (List PyData)
  | []=>some []
  | u::us=>match f u,tK f us with
    | some d,some ds=>some (d::ds)
    | _,_=>none
def dat:Nat->Hm->U->Option PyData
  | 0,_,_=>none
  | k + 1,h,u=>match u with
    | .non=>some .none
    | .bl b=>some (.bool b)
    | .int i=>some (.int i)
    | .str x=>some (.str (S x))
    | .tup us=>(tK (dat k h) us).map .tuple
    | .ref i=>match h[i]? with
      | some (.lst us)=>(tK (dat k h) us).map .list
      | some (.fro us)=>(tK (dat k h) us).map .list
      | _=>none
    | _=>none
theorem mK {K:PySem.W.Frag} {mg:Str->Option Value} {m:Nat->Addr} {H:Hp} {n:Nat} {f:U->Option PyData} (hf:∀ u v d,RU K mg m H n u v->f u=some d->Dp K H v d):∀ {us:List U} {vs:List V} {ds:List PyData},a5 K mg m H n us vs->tK f us=some ds->DpAll K H vs ds
  | [],vs,ds,r,e=>by
    simp only[a5] at r;subst r;cases e
    exact .nil
  | u::us,vs,ds,r,e=>by
    simp only[a5] at r;obtain⟨v,r',e1,h1,h2⟩:=r;subst e1;simp only[tK] at e;split at e
    . rename_i d ds' g1 g2
      cases e
      exact .cons (hf _ _ _ h1 g1) (mK hf h2 g2)
    . cases e
theorem jq {W0:World} {K:PySem.W.Frag} {mg:Str->Option Value} {m:Nat->Addr} {H:Hp} {h:Hm} (rh:RH W0 K mg m H h):∀ (k:Nat) (u:U) (v:V) (d:PyData),RU K mg m H h.length u v->dat k h u=some d->Dp K H v d
  | 0,_,_,_,_,e=>by cases e
  | k + 1,u,v,d,r,e=>by
    cases u with
    | non=>simp only[RU] at r;subst r;cases e;exact .non
    | bl b=>simp only[RU] at r;subst r;cases e;exact .bl b
    | int i=>simp only[RU] at r;subst r;cases e;exact .int i
    | str x=>simp only[RU] at r;subst r;cases e;exact .str _
    | tup us=>
      simp only[RU] at r;obtain⟨a,xs,e1,t,rs⟩:=r;subst e1;simp only[dat,mOsZ] at e;obtain⟨ds,e,rfl⟩:=e;exact .tup t (mK (fun u v d q z=>jq rh k u v d q z) rs e)
    | ref i=>
      simp only[RU] at r;obtain⟨hi,e1⟩:=r;subst e1;simp only[dat] at e;split at e
      . rename_i us hq
        obtain⟨ds,e',rfl⟩:=mOsZ.mp e;obtain⟨xs,ex,rs⟩:=rh.at_ i _ hq;exact .lst (SqL.of ex) (mK (fun u v d q z=>jq rh k u v d q z) rs e')
      . rename_i us hq
        obtain⟨ds,e',rfl⟩:=mOsZ.mp e;obtain⟨xs,ex,rs⟩:=rh.at_ i _ hq;exact .lst ex.sq (mK (fun u v d q z=>jq rh k u v d q z) rs e')
      . cases e
    | ty n=>cases e
    | glo n=>cases e
    | adr n=>cases e
def HY:U->U->Option Bool
  | .non,.non=>some true
  | .non,.bl _=>some false
  | .non,.int _=>some false
  | .non,.str _=>some false
  | .bl _,.non=>some false
  | .bl a,.bl b=>some (decide (a=b))
  | .bl _,.str _=>some false
  | .int _,.non=>some false
  | .int a,.int b=>some (decide (a=b))
  | .int _,.str _=>some false
  | .str _,.non=>some false
  | .str _,.bl _=>some false
  | .str _,.int _=>some false
  | .str a,.str b=>some (decide (a=b))
  | _,_=>none
def Jo (h:Hm) (u w:U):Option Bool:=match dat 12 h u,dat 12 h w with
  | some d,some e=>if SeqAt.shaped d && SeqAt.shaped e then some (PyData.eqv d e) else none
  | _,_=>none
def eqB (h:Hm) (u w:U):Option Bool:=match HY u w with
  | some b=>some b
  | none=>Jo h u w
def eqU:G2:=fun u w h=>(eqB h u w).map fun b=>(.bl b,h)
def Be:G2:=fun u w h=>(eqB h u w).map fun b=>(.bl (!b),h)
theorem rG {K:PySem.W.Frag} {mg:Str->Option Value} {m:Nat->Addr} {H:Hp} {n:Nat} {u w:U} {x y:V} {b:Bool} (r1:RU K mg m H n u x) (r2:RU K mg m H n w y) (e:HY u w=some b):scal x y=true/\decide (x=y)=b:=by
  unfold HY at e
  split at e<;>first
    | (cases e;done)
    | (cases e;simp only[RU] at r1 r2;subst r1 r2;refine⟨rfl,?_⟩;simp;done)
    | (cases e;simp only[RU] at r1 r2;subst r1 r2
       refine⟨rfl,?_⟩;rename_i a c
       by_cases q:a=c
       . subst q;simp
       . rw[decide_eq_false q]
         exact decide_eq_false fun z=>q (S_inj (by injection z)))
theorem cS (hu:X.A.units + 64 < cLine):SO X (compareOp .Eq) eqU:=by
  intro m H h u w x y u' h' Q r1 r2 rh e post;unfold eqU eqB at e;split at e
  . rename_i b eb
    cases e
    obtain⟨e1,e2⟩:=rG r1 r2 eb;exact⟨_,op_eq,e1,by rw[e2];exact cj rh post⟩
  . unfold Jo at e
    split at e
    . rename_i d e2 g1 g2
      split at e
      . rename_i hs
        cases e
        rw[Bool.and_eq_true] at hs;exact⟨_,op_eqD hu,d,e2,jq rh 12 _ _ _ r1 g1,jq rh 12 _ _ _ r2 g2,hs.1,hs.2,cj rh post⟩
      . cases e
    . cases e
theorem qR (hu:X.A.units + 64 < cLine):SO X (compareOp .NotEq) Be:=by
  intro m H h u w x y u' h' Q r1 r2 rh e post;unfold Be eqB at e;split at e
  . rename_i b eb
    cases e
    obtain⟨e1,e2⟩:=rG r1 r2 eb;exact⟨_,op_ne,e1,by rw[e2];exact cj rh post⟩
  . unfold Jo at e
    split at e
    . rename_i d e2 g1 g2
      split at e
      . rename_i hs
        cases e
        rw[Bool.and_eq_true] at hs;exact⟨_,op_neD hu,d,e2,jq rh 12 _ _ _ r1 g1,jq rh 12 _ _ _ r2 g2,hs.1,hs.2,cj rh post⟩
      . cases e
    . cases e
def ia:U->Bool
  | .non=>true
  | .bl _=>true
  | .int _=>true
  | .str _=>true
  | _=>false
def ET:U->U->Bool
  | .non,.non=>true
  | .bl a,.bl b=>a == b
  | .bl a,.int b=>(if a then 1 else 0) == b
  | .int a,.bl b=>a == (if b then 1 else 0)
  | .int a,.int b=>a == b
  | .str a,.str b=>a == b
  | _,_=>false
def Av (u w:U) (h:Hm):Option Bool:=match u,w with
  | .str [c],.str z=>some (decide (c∈z))
  | u,w=>match cR w h with
    | some us=>if ia u && us.all ia then some (us.any fun y=>ET y u) else none
    | none=>none
def yE (neg:Bool):G2:=fun u w h=>(Av u w h).map fun b=>(.bl (if neg then !b else b),h)
theorem xf {K:PySem.W.Frag} {mg:Str->Option Value} {m:Nat->Addr} {H:Hp} {n:Nat} {u:U} {x:V} (r:RU K mg m H n u x) (f:ia u=true):flatV x=true:=by
  cases u<;>first | (simp only[RU] at r;subst r;rfl) | cases f
theorem vQ {K:PySem.W.Frag} {mg:Str->Option Value} {m:Nat->Addr} {H:Hp} {n:Nat} {u w:U} {x y:V} (r1:RU K mg m H n u x) (r2:RU K mg m H n w y) (f1:ia u=true) (f2:ia w=true):eqV x y=ET u w:=by
  cases u<;>first
    | (cases f1;done)
    | (simp only[RU] at r1;subst r1
       cases w<;>first
         | (cases f2;done)
         | (simp only[RU] at r2;subst r2;first
             | rfl
             | (show(S _ == S _)=(_ == _)
                rename_i a b
                by_cases q:a=b
                . subst q;simp
                . rw[beq_eq_false_iff_ne.mpr q,beq_eq_false_iff_ne.mpr fun z=>q (S_inj z)])))
theorem Ax {K:PySem.W.Frag} {mg:Str->Option Value} {m:Nat->Addr} {H:Hp} {n:Nat} {u:U} {x:V} (r:RU K mg m H n u x) (f:ia u=true):∀ {us:List U} {vs:List V},a5 K mg m H n us vs->us.all ia=true->vs.all flatV=true/\inV x vs=us.any fun y=>ET y u
  | [],vs,h,_=>by
    simp only[a5] at h;subst h;exact⟨rfl,rfl⟩
  | w::us,vs,h,hf=>by
    simp only[a5] at h;obtain⟨v,r',e1,h1,h2⟩:=h;subst e1;rw[List.all_cons,Bool.and_eq_true] at hf;obtain⟨a,b⟩:=Ax r f h2 hf.2;refine⟨by rw[List.all_cons,xf h1 hf.1,a];rfl,?_⟩
    unfold inV at b ⊢;rw[List.any_cons,List.any_cons,b,vQ h1 r hf.1 f]
theorem qP (neg:Bool) {f:Value->Value->Sem Value} (o1:OpR X f (fun x y H Q=>∃ (c:Nat) (z:Str),x=.str ⟨#[c]⟩/\y=.str z/\Q (.bl (if neg then !decide (c∈z.cps.toList) else decide (c∈z.cps.toList))) H))
    (o2:OpR X f (rIn X.K neg)):SO X f (yE neg):=by
  intro m H h u w x y u' h' Q r1 r2 rh e post;unfold yE at e;obtain⟨b,eb,e⟩:=mOsZ.mp e;cases e
  unfold Av at eb;split at eb
  . rename_i c z
    cases eb
    simp only[RU] at r1 r2;subst r1 r2;refine⟨_,o1,c,S z,rfl,rfl,?_⟩;have e:((S z).cps.toList)=z:=by simp[S]
    rw[e];exact cj rh post
  . split at eb
    . rename_i us hq
      split at eb
      . rename_i hf
        cases eb
        rw[Bool.and_eq_true] at hf;obtain⟨p,xs,e1,t,rs⟩:=hJ r2 rh hq;obtain⟨a,b⟩:=Ax r1 hf.1 rs hf.2;refine⟨_,o2,p,xs,e1,t.symm,xf r1 hf.1,a,?_⟩;rw[b];exact cj rh post
      . cases eb
    . cases eb
theorem I0:SO X (compareOp .In) (yE false):=qP false (by simpa using op_in_sign) op_in_seq
theorem Cp:SO X (compareOp .NotIn) (yE true):=qP true (by simpa using op_notIn_sign) op_notIn_seq

def SI (X:Cx) (g:G2):Prop:=∀ m H h u w x y u' h' Q,RU X.K X.mg m H h.length u x->RU X.K X.mg m H h.length w y->RH X.w X.K X.mg m H h->g u w h=some (u',h')->gX X m H h (cW X) u' h' Q->∃ r,IxR X r/\r x y H Q
def yH:G2:=fun u w h=>match w with
  | .int i=>match u with
    | .str z=>if z.length<=16777216 then(atI z i).map fun c=>(.str [c],h) else none
    | _=>match cR u h with
      | some us=>(atI us i).map fun v=>(v,h)
      | none=>none
  | _=>none
theorem a5.atI {K:PySem.W.Frag} {mg:Str->Option Value} {m:Nat->Addr} {H:Hp} {n:Nat} {us:List U} {vs:List V} {i:Int} {u:U} (r:a5 K mg m H n us vs) (e:L2.atI us i=some u):∃ v,L2.atI vs i=some v/\RU K mg m H n u v:=by
  unfold L2.atI at e ⊢;rw[<- r.length];cases q:ixN us.length i with
  | none=>rw[q] at e;cases e
  | some j=>
    rw[q] at e;exact r.get e
theorem Fh:SI X yH:=by
  intro m H h u w x y u' h' Q r1 r2 rh e post;unfold yH at e;split at e
  . rename_i i
    simp only[RU] at r2;subst r2;split at e
    . rename_i z
      split at e
      . rename_i hl
        obtain⟨c,ec,e⟩:=mOsZ.mp e;cases e
        simp only[RU] at r1;subst r1;exact⟨_,ix_str,S z,i,c,rfl,rfl,by rw[S_len,c8];exact hl,by simpa[S] using ec,post_str rh post⟩
      . cases e
    . split at e
      . rename_i us hq
        obtain⟨v,ev,e⟩:=mOsZ.mp e;cases e
        obtain⟨p,xs,e1,t,rs⟩:=hJ r1 rh hq;obtain⟨v',e2,rv⟩:=rs.atI ev;rcases t with t | t
        . exact⟨_,ix_tup,p,xs,i,v',e1,rfl,t,e2,oJ rv rh post⟩
        . exact⟨_,ix_list,p,xs,i,v',e1,rfl,t,e2,oJ rv rh post⟩
      . cases e
  . cases e
variable {a b:Expr} {fa fb:FE} {pos p2:Pos}
def cutU {α:Type} (xs:List α) (lo hi:Option Int):List α:=(xs.drop (HT.sIx xs.length 0 lo)).take (HT.sIx xs.length xs.length hi - HT.sIx xs.length 0 lo)
def Ep (u:U) (lo hi:Option Int) (h:Hm):Option (U × Hm):=match u with
  | .str z=>if z.length<=16777216 then some (.str (cutU z lo hi),h) else none
  | .tup us=>some (.tup (cutU us lo hi),h)
  | .ref i=>match h[i]? with
    | some (.lst us)=>some (.ref h.length,h++[.lst (cutU us lo hi)])
    | some (.fro us)=>some (.ref h.length,h++[.lst (cutU us lo hi)])
    | _=>none
  | _=>none
theorem a5.cut {K:PySem.W.Frag} {mg:Str->Option Value} {m:Nat->Addr} {H:Hp} {n:Nat} {us:List U} {vs:List V} {lo hi:Option Int} (r:a5 K mg m H n us vs):a5 K mg m H n (cutU us lo hi) (cutV vs lo hi):=by
  unfold cutU cutV;rw[<- r.length];exact a5.take _ (a5.drop _ r)
def SLU (X:Cx) (g:U->Option Int->Option Int->Hm->Option (U × Hm)):Prop:=∀ m H h u x lo hi u' h' Q,RU X.K X.mg m H h.length u x->RH X.w X.K X.mg m H h->g u lo hi h=some (u',h')->gX X m H h (cW X) u' h' Q->∃ r,SlR X r/\r x lo hi H Q
theorem FR (z:List Nat) (lo hi:Option Int):cutS (S z) lo hi=S (cutU z lo hi):=by
  unfold cutS cutU;simp[S,Str.length]
theorem Hb:SLU X Ep:=by
  intro m H h u x lo hi u' h' Q r1 rh e post;unfold Ep at e;split at e
  . rename_i z
    split at e
    . rename_i hl
      cases e
      simp only[RU] at r1;subst r1;exact⟨_,sl_str,S z,rfl,by rw[S_len,c8];exact hl,by rw[FR];exact post_str rh post⟩
    . cases e
  . rename_i us
    cases e
    have q1:=r1;simp only[RU] at r1;obtain⟨a,xs,e1,t,rs⟩:=r1;subst e1;refine⟨_,sl_tupA,a,xs,rfl,t,fun w=>?_,fun w=>?_⟩
    . have e:cutU us lo hi=us:=by
        unfold cutU;rw[rs.length,w.1,w.2,<- rs.length];simp
      rw[e] at post;exact oJ q1 rh post
    . exact iN rs.cut rh post
  . rename_i i
    simp only[RU] at r1;split at e
    . rename_i us hq
      cases e
      obtain⟨xs,ex,rs⟩:=rh.at_ i _ hq;exact⟨_,sl_list,m i,xs,r1.2,SqL.of ex,iM rs.cut rh post⟩
    . rename_i us hq
      cases e
      obtain⟨xs,ex,rs⟩:=rh.at_ i _ hq;exact⟨_,sl_list,m i,xs,r1.2,ex.sq,iM rs.cut rh post⟩
    . cases e
  . cases e
def Jm (X:Cx) (e:Option Expr) (f:En->Hm->Rs (Option Int)):Prop:=∀ su h σ H m,cT X.K X.mg m H h.length su σ->RH X.w X.K X.mg m H h->∀ Q,Fin X σ m H h (sV) (f su h) Q ->
  pB (∀ pins s,Inv X pins σ H s->wpAny (model X.prog X.w) X.A (evalPart e X.env) (fun u s'=>∃ o H',Inv X pins σ H' s'/\IsPart u o/\Q o H') X.xe s)
def jd:En->Hm->Rs (Option Int):=fun _ h=>.ok none h
def dR (f:FE):En->Hm->Rs (Option Int):=fun su h=>(f su h).bind fun u h1=>match u with
  | .int i=>.ok (some i) h1
  | _=>.bad
theorem mz:Jm X none jd:=fun su h σ H m rs rh Q fin=>⟨fun pins s I=>po_none.run pins s σ H Q I (fin none m H .refl rfl rh)⟩
theorem ir (ha:SE X a fa):Jm X (some a) (dR fa):=fun su h σ H m rs rh Q fin=>by
  refine⟨fun pins s I=>?_⟩
  refine(po_some bO).run pins s σ H Q I (ha su h σ H m rs rh _ ((Fin.bind (RV:=cW X) fin).imp fun x H1 ⟨u,h1,m1,up1,r1,rh1,fin1⟩=>?_))
  split at fin1
  . rename_i i
    have e:x=.int i:=by simpa only[RU] using r1
    exact⟨i,e,fin1 (some i) m1 H1 .refl rfl rh1⟩
  . exact False.elim fin1
abbrev IU (X:Cx) (e:Option Expr) (σ:Sg) (H:Hp) (Q:Option Int->Hp->Prop):Prop:=pB (∀ pins s,Inv X pins σ H s->wpAny (model X.prog X.w) X.A (evalPart e X.env) (fun u s'=>∃ o H',Inv X pins σ H' s'/\IsPart u o/\Q o H') X.xe s)
def oW (fa:FE) (lo hi:En->Hm->Rs (Option Int)):FE:=fun su h=>(fa su h).bind fun u h1=>(lo su h1).bind fun l h2=>(hi su h2).bind fun k h3=>bZ (Ep u l k h3)
theorem gh {lo hi:Option Expr} {fl fh:En->Hm->Rs (Option Int)} (ha:SE X a fa) (hl:Jm X lo fl) (hh:Jm X hi fh):SE X (.Subscript a (.Slice lo hi none p2) pos) (oW fa fl fh):=by
  intro su h σ H m rs rh Q fin;refine⟨fun pins s I=>?_⟩
  have h1:lJ X a σ H fun x H1=>IU X lo σ H1 fun l H2=>IU X hi σ H2 fun k H3=>∃ r,SlR X r/\r x l k H3 Q:=by
    refine ha su h σ H m rs rh _ (fin.bind.imp fun x H1 ⟨u,h1,m1,up1,r1,rh1,fin1⟩=>?_)
    refine hl su h1 σ H1 m1 (rs.up up1) rh1 _ ((Fin.bind (RV:=sV) fin1).imp fun l H2 ⟨l',h2,m2,up2,r2,rh2,fin2⟩=>?_)
    cases r2
    refine hh su h2 σ H2 m2 ((rs.up up1).up up2) rh2 _ ((Fin.bind (RV:=sV) fin2).imp fun k H3 ⟨k',h3,m3,up3,r3,rh3,fin3⟩=>?_)
    cases r3
    obtain⟨u',h',e,post⟩:=fin3.some;exact Hb m3 H3 h3 u x l k u' h' Q (RU.up up3 _ _ (RU.up up2 _ _ r1)) rh3 e post
  refine Subscript_ (thn (h1 pins s I) fun v s1 ⟨x,H1,I1,r1,q1⟩=>?_)
  refine wpAny_Slice (thn (q1 pins s1 I1) fun vl s2 ⟨l,H2,I2,pl,q2⟩=>thn (q2 pins s2 I2) fun vu s3 ⟨u,H3,I3,pu,r,hr,q3⟩=>?_)
  rw[evalPart_none];refine wpAny_pure ?_;have I4:Inv X pins σ H3 { s3 with heap:=s3.heap.push { cls:=.type "slice",data:=.fields #[vl,vu,.none] } }:=I3.kept (t':=s3.toks) fun b ob q=>Heap.get?_push_of_some _ q
  obtain⟨T,id,hT,ht,hg⟩:=hr pins { s3 with heap:=s3.heap.push { cls:=.type "slice",data:=.fields #[vl,vu,.none] } } σ H3 x v vl vu l u s3.heap.objs.size Q I4 r1 (Heap.IsSliceOf.new ..) pl pu q3
  show wpAny (model X.prog X.w) X.A (subscriptTail a (.Slice lo hi none p2) v (.ref s3.heap.objs.size)) (EP X pins σ Q) X.xe { s3 with heap:=s3.heap.push { cls:=.type "slice",data:=.fields #[vl,vu,.none] } }
  exact tail_any (ops:=[.ref s3.heap.objs.size,v]) ht hT hg (by with_unfolding_all rfl)
end
end UL

namespace UL
open PySem PySem.Spec PyProof.Rows L2
variable [bo]

inductive Fl where
  | nx (su:En) (h:Hm)
  | rt (u:U) (h:Hm)
  | bk (su:En) (h:Hm)
  | ct (su:En) (h:Hm)
  | ex (c:Str) (fs:List (Str × U)) (su:En) (h:Hm)
  | bad
abbrev FS:=En->Hm->Fl
def Rs.st {α:Type} (r:Rs α) (su:En) (k:α->Hm->Fl):Fl:=match r with
  | .ok a h=>k a h
  | .ex c fs h=>.ex c fs su h
  | .bad=>.bad

section
variable {X:Cx}
def bY (X:Cx) (m:Nat->Addr) (H:Hp) (h:Hm) (r:Fl) (D:Ends):Prop:=
  match r with
  | .nx su h'=>∀ σ' m' H',Up X.K m H h.length m' H' h'.length->cT X.K X.mg m' H' h'.length su σ'->RH X.w X.K X.mg m' H' h'->D.nx σ' H'
  | .rt u h'=>∀ v m' H',Up X.K m H h.length m' H' h'.length->RU X.K X.mg m' H' h'.length u v->RH X.w X.K X.mg m' H' h'->D.rt v H'
  | .bk su h'=>∀ σ' m' H',Up X.K m H h.length m' H' h'.length->cT X.K X.mg m' H' h'.length su σ'->RH X.w X.K X.mg m' H' h'->D.bk σ' H'
  | .ct su h'=>∀ σ' m' H',Up X.K m H h.length m' H' h'.length->cT X.K X.mg m' H' h'.length su σ'->RH X.w X.K X.mg m' H' h'->D.ct σ' H'
  | .ex c fs su h'=>∃ W,Takes X W/\∀ cls d σ' m' H',Up X.K m H h.length m' H' h'.length->cT X.K X.mg m' H' h'.length su σ'->RX X.K X.mg m' H' h'.length c fs cls d->RH X.w X.K X.mg m' H' h'->W cls d σ' H'
  | .bad=>False
variable {m m1:Nat->Addr} {H H1:Hp} {h h1:Hm} {D:Ends} {σ:Sg} {su:En}
theorem bY.up {r:Fl} (p:Up X.K m H h.length m1 H1 h1.length) (f:bY X m H h r D):bY X m1 H1 h1 r D:=by
  cases r with
  | nx su h'=>exact fun σ' m' H' p'=>f σ' m' H' (p.trans p')
  | rt u h'=>exact fun v m' H' p'=>f v m' H' (p.trans p')
  | bk su h'=>exact fun σ' m' H' p'=>f σ' m' H' (p.trans p')
  | ct su h'=>exact fun σ' m' H' p'=>f σ' m' H' (p.trans p')
  | ex c fs su h'=>obtain⟨W,t,k⟩:=f;exact⟨W,t,fun cls d σ' m' H' p'=>k cls d σ' m' H' (p.trans p')⟩
  | bad=>exact f
theorem bY.bind {α β:Type} {RV:Rel α β} {r:Rs α} {k:α->Hm->Fl} (rs:cT X.K X.mg m H h.length su σ) (f:bY X m H h (r.st su k) D) :
    Fin X σ m H h RV r (fun v H1=>∃ u h1 m1,Up X.K m H h.length m1 H1 h1.length/\RV m1 H1 h1.length u v/\RH X.w X.K X.mg m1 H1 h1/\bY X m1 H1 h1 (k u h1) D):=by
  cases r with
  | ok u h'=>exact fun v m' H' p r rh=>⟨u,h',m',p,r,rh,bY.up p f⟩
  | ex c fs h'=>obtain⟨W,t,k⟩:=f;exact⟨W,t,fun cls d m' H' p x rh=>k cls d σ m' H' p (rs.up p) x rh⟩
  | bad=>exact f
end
abbrev G7 (X:Cx) (st:Stmt) (D:Ends) (σ:Sg) (H:Hp):Prop:=pB (∀ pins s,Inv X pins σ H s->wpAny (model X.prog X.w) X.A (exec st X.env) (SP X pins D) X.xe s)
abbrev yc (X:Cx) (st:List Stmt) (D:Ends) (σ:Sg) (H:Hp):Prop:=pB (∀ pins s,Inv X pins σ H s->wpAny (model X.prog X.w) X.A (execs st X.env) (SP X pins D) X.xe s)
theorem BQ {X:Cx} {st:Stmt}:PS X st (G7 X st):=⟨fun pins s σ H D I h=>h.out pins s I⟩
theorem j7 {X:Cx} {st:List Stmt}:PSs X st (yc X st):=⟨fun pins s σ H D I h=>h.out pins s I⟩
theorem eL {X:Cx} {st:Stmt} {t:TS} {D:Ends} {σ:Sg} {H:Hp} (p:PS X st t) (q:t D σ H):G7 X st D σ H:=⟨fun pins s I=>p.run pins s σ H D I q⟩
theorem oU {X:Cx} {st:List Stmt} {t:TS} {D:Ends} {σ:Sg} {H:Hp} (p:PSs X st t) (q:t D σ H):yc X st D σ H:=⟨fun pins s I=>p.run pins s σ H D I q⟩
def SS (X:Cx) (st:Stmt) (f:FS):Prop:=∀ su h σ H m,cT X.K X.mg m H h.length su σ->RH X.w X.K X.mg m H h->∀ D,bY X m H h (f su h) D->G7 X st D σ H
def zS (X:Cx) (st:List Stmt) (f:FS):Prop:=∀ su h σ H m,cT X.K X.mg m H h.length su σ->RH X.w X.K X.mg m H h->∀ D,bY X m H h (f su h) D->yc X st D σ H

section
variable {X:Cx} {st:Stmt} {rest:List Stmt} {f g:FS} {e c:Expr} {fe:FE} {fc:FT} {pos:Pos}
def aH:FS:=fun su h=>.nx su h
def aA (f g:FS):FS:=fun su h=>match f su h with
  | .nx su' h'=>g su' h'
  | r=>r
theorem bh:zS X [] aH:=fun su h σ H m rs rh D fin=>oU pss_nil (fin σ m H .refl rs rh)
theorem aB (h1:SS X st f) (h2:zS X rest g):zS X (st::rest) (aA f g):=by
  intro su h σ H m rs rh D fin;refine oU (pss_cons BQ j7) (h1 su h σ H m rs rh { D with nx:=yc X rest D } ?_)
  unfold aA at fin;cases e:f su h with
  | nx su' h'=>
    rw[e] at fin;exact fun σ' m' H' p rs' rh'=>h2 su' h' σ' H' m' rs' rh' D (bY.up p fin)
  | rt u h'=>rw[e] at fin;exact fin
  | bk su' h'=>rw[e] at fin;exact fin
  | ct su' h'=>rw[e] at fin;exact fin
  | ex c fs su' h'=>rw[e] at fin;exact fin
  | bad=>rw[e] at fin;exact fin
theorem aI (h1:SS X st f):zS X [st] f:=fun su h σ H m rs rh D fin=>oU (pss_one BQ) (h1 su h σ H m rs rh D fin)
def dJ:FS:=fun su h=>.bk su h
def fu (fe:FE):FS:=fun su h=>(fe su h).st su fun _ h1=>.nx su h1
theorem lL (he:SE X e fe) (hs:swapsWith e none pos.line X.env=pure false:=by rfl):SS X (.Expr e pos) (fu fe):=by
  intro su h σ H m rs rh D fin;exact eL (ps_expr bO hs) (he su h σ H m rs rh _ ((bY.bind (RV:=cW X) rs fin).imp fun x H1 ⟨u,h1,m1,up1,r1,rh1,fin1⟩=>fin1 σ m1 H1 .refl (rs.up up1) rh1))
def retS (fe:FE):FS:=fun su h=>(fe su h).st su fun u h1=>.rt u h1
theorem aX (he:SE X e fe):SS X (.Return (some e) pos) (retS fe):=by
  intro su h σ H m rs rh D fin;exact eL (ps_ret bO) (he su h σ H m rs rh _ ((bY.bind (RV:=cW X) rs fin).imp fun x H1 ⟨u,h1,m1,up1,r1,rh1,fin1⟩=>fin1 x m1 H1 .refl r1 rh1))
def cJ (fc:FT) (f g:FS):FS:=fun su h=>(fc su h).st su fun k h1=>if k=true then f su h1 else g su h1
theorem bL {a b:List Stmt} (hc:ST X c fc) (ha:zS X a f) (hb:zS X b g):SS X (.If c a b pos) (cJ fc f g):=by
  intro su h σ H m rs rh D fin;refine eL (ps_if iA j7 j7) (hc su h σ H m rs rh _ ((bY.bind (RV:=sV) rs fin).imp fun k H1 ⟨k',h1,m1,up1,r1,rh1,fin1⟩=>?_))
  cases r1
  cases k with
  | true=>rw[if_pos rfl] at fin1 ⊢;exact ha su h1 σ H1 m1 (rs.up up1) rh1 D fin1
  | false=>rw[if_neg Bool.false_ne_true] at fin1 ⊢;exact hb su h1 σ H1 m1 (rs.up up1) rh1 D fin1

def Off (vs:List Nat) (σ σ':Sg):Prop:=σ'.length=σ.length/\∀ i,i ∉ vs->σ'[i]?=σ[i]?
theorem Off.refl {vs:List Nat} {σ:Sg}:Off vs σ σ:=⟨rfl,fun _ _=>rfl⟩
theorem Off.trans {vs ws:List Nat} {σ σ' σ'':Sg} (a:Off vs σ σ') (b:Off ws σ' σ''):Off (vs++ws) σ σ'':=
  ⟨b.1.trans a.1,fun i hi=>(b.2 i fun z=>hi (List.mem_append_right _ z)).trans (a.2 i fun z=>hi (List.mem_append_left _ z))⟩
theorem Off.set {σ:Sg} {i:Nat} {v:Option V}:Off [i] σ (σ.set i v):=⟨List.length_set,fun j hj=>by rw[List.getElem?_set_ne];intro z;exact hj (by simp[z])⟩
abbrev FG:=U->En->Hm->Rs En
abbrev zO:=List U->En->Hm->Rs En
def SG (X:Cx) (tg:Expr) (g:FG) (vs:List Nat):Prop:=∀ u v su h σ H m,RU X.K X.mg m H h.length u v->cT X.K X.mg m H h.length su σ->RH X.w X.K X.mg m H h->∀ Q:Sg->Hp->Prop,Fin X σ m H h (cT X.K X.mg) (g u su h) Q ->
  pB (∀ pins s w,Inv X pins σ H s->RelV v w->wpAny (model X.prog X.w) X.A (assign tg X.env w) (fun _ s'=>∃ σ' H',Inv X pins σ' H' s'/\Off vs σ σ'/\Q σ' H') X.xe s)
def Jk (X:Cx) (ts:List Expr) (g:zO) (ns:List Nat):Prop:=∀ us vs su h σ H m,a5 X.K X.mg m H h.length us vs->cT X.K X.mg m H h.length su σ->RH X.w X.K X.mg m H h->∀ Q:Sg->Hp->Prop,Fin X σ m H h (cT X.K X.mg) (g us su h) Q ->
  pB (∀ pins s ws,Inv X pins σ H s->Vals vs ws->wpAny (model X.prog X.w) X.A (assignInOrder ((assignEach ts X.env).map (·.2)) ws) (fun _ s'=>∃ σ' H',Inv X pins σ' H' s'/\Off ns σ σ'/\Q σ' H') X.xe s)
def aG (i:Nat):FG:=fun u su h=>.ok (su.set i (some u)) h
theorem Em (i:Nat) {x:Str} (hN:X.N.Nodup) (hi:X.N[i]?=some x) (hx:Loc X.env.scope x) (hf:X.fn x=true\/X.env.scope.names.lookup x=some .local:=by first | exact .inl rfl | exact .inr rfl | assumption):SG X (.Name x pos) (aG i) [i]:=by
  intro u v su h σ H m r rs rh Q fin;refine⟨fun pins s w I rw'=>?_⟩
  exact wpAny_assign_Name (store_ok I hN hi hx rw' (fun s' I'=>⟨_,H,I',Off.set,fin (σ.set i (some v)) m H .refl (rs.set i r) rh⟩) hf)
def cC:zO:=fun us su h=>match us with
  | []=>.ok su h
  | _=>.bad
def a9 (g:FG) (gr:zO):zO:=fun us su h=>match us with
  | u::us=>(g u su h).bind fun su' h'=>gr us su' h'
  | _=>.bad
theorem fW:Jk X [] cC []:=by
  intro us vs su h σ H m r rs rh Q fin;refine⟨fun pins s ws I rv=>?_⟩
  unfold cC at fin;split at fin
  . simp only[a5] at r
    subst r;cases rv
    exact assignInOrder_nil ⟨σ,H,I,Off.refl,fin σ m H .refl rs rh⟩
  . exact False.elim fin
def DL {α:Type}:Rs α->Prop
  | .ex _ _ _=>False
  | _=>True
theorem Fin.HU {σ':Sg} {m:Nat->Addr} {H:Hp} {h:Hm} {r:Rs En} {k:En->Hm->Rs En} {Q:Sg->Hp->Prop} (f:Fin X σ' m H h (cT X.K X.mg) (r.bind k) Q) (hk:∀ su h,DL (k su h)) :
    Fin X σ' m H h (cT X.K X.mg) r (fun v H1=>∃ u h1 m1,Up X.K m H h.length m1 H1 h1.length/\cT X.K X.mg m1 H1 h1.length u v/\RH X.w X.K X.mg m1 H1 h1/\Fin X v m1 H1 h1 (cT X.K X.mg) (k u h1) Q):=by
  refine(Fin.bind f).imp fun v H1 ⟨u,h1,m1,up,r1,rh1,f1⟩=>⟨u,h1,m1,up,r1,rh1,?_⟩
  have hn:=hk u h1;cases e:k u h1 with
  | ok a h2=>rw[e] at f1;exact f1
  | ex c fs h2=>rw[e] at hn;exact hn.elim
  | bad=>rw[e] at f1;exact f1
def Quiet (gr:zO):Prop:=∀ us su h,DL (gr us su h)
def zR (g:FG):Prop:=∀ u su h,DL (g u su h)
theorem cV (i:Nat):zR (aG i):=fun _ _ _=>trivial
theorem dP:Quiet cC:=fun us su h=>by unfold cC;split<;>trivial
theorem d5 {g:FG} {gr:zO} (a:zR g) (b:Quiet gr):Quiet (a9 g gr):=fun us su h=>by
  unfold a9;split
  . rename_i u us
    have q:=a u su h;cases e:g u su h with
    | ok su' h'=>exact b us su' h'
    | ex c fs h'=>rw[e] at q;exact q.elim
    | bad=>trivial
  . trivial
theorem bz {t:Expr} {ts:List Expr} {g:FG} {gr:zO} {ns ms:List Nat} (h1:SG X t g ns) (h2:Jk X ts gr ms) (hq:Quiet gr) (hs:(assignEach (t::ts) X.env).map (·.2)=assign t X.env::(assignEach ts X.env).map (·.2):=by rfl):Jk X (t::ts) (a9 g gr) (ns++ms):=by
  intro us vs su h σ H m r rs rh Q fin;refine⟨fun pins s ws I rv=>?_⟩
  unfold a9 at fin;split at fin
  . rename_i u us
    simp only[a5] at r;obtain⟨v,vr,e1,ru,rr⟩:=r;subst e1;cases rv with
    | cons r1 rr1=>
      rw[hs];refine assignInOrder_cons (thn (h1 u v su h σ H m ru rs rh _ (Fin.HU fin (hq us)) pins s _ I r1) fun _ s1 ⟨σ1,H1,I1,off1,su1,h1',m1,up1,rs1,rh1,fin1⟩=>?_)
      exact thn (h2 us vr su1 h1' σ1 H1 m1 (a5.up up1 _ _ rr) rs1 rh1 Q fin1 pins s1 _ I1 rr1) fun _ s2 ⟨σ2,H2,I2,off2,q2⟩=>⟨σ2,H2,I2,off1.trans off2,q2⟩
  . exact False.elim fin
def eY (n:Nat) (gr:zO):FG:=fun u su h=>match cR u h with
  | some us=>if us.length=n then gr us su h else .bad
  | none=>.bad
theorem iB {es:List Expr} {k n:Nat} {gr:zO} {ns:List Nat} (hc:X.calm=true) (hg:Jk X es gr ns) (hn:(assignEach es X.env).length=n:=by rfl) (hst:(assignEach es X.env).findIdx? (·.1)=none:=by rfl):SG X (.Tuple es k pos) (eY n gr) ns:=by
  intro u v su h σ H m r rs rh Q fin;refine⟨fun pins s w I rv=>?_⟩
  unfold eY at fin;split at fin
  . rename_i us e
    split at fin
    . rename_i hl
      obtain⟨p,xs,e1,t,rxs⟩:=hJ r rh e;subst e1;have hl':xs.length=n:=by rw[<- rxs.length];exact hl
      have go:PGs X es (fun vs σ' H' Q'=>vs=xs/\σ'=σ/\H'=H/\Q'=fun σ2 H2=>Off ns σ σ2/\Q σ2 H2):=⟨fun pins s σ' H' vs us' Q' I' rv' ⟨e1,e2,e3,e4⟩=>by
        subst e1 e2 e3 e4;exact hg us vs su h σ' H' m rxs rs rh Q fin pins s us' I' rv'⟩
      rcases t with t | t
      . exact(pg_tup hc go hn hst).run pins s σ H _ w _ I rv ⟨p,xs,rfl,t,hl',rfl,rfl,rfl,rfl⟩
      . exact(pg_lst hc go hn hst).run pins s σ H _ w _ I rv ⟨p,xs,rfl,t,hl',rfl,rfl,rfl,rfl⟩
    . exact False.elim fin
  . exact False.elim fin
def dh (fe:FE) (g:FG):FS:=fun su h=>(fe su h).st su fun u h1=>(g u su h1).st su fun su' h2=>.nx su' h2
theorem Hj {tg:Expr} {g:FG} {ns:List Nat} (he:SE X e fe) (hg:SG X tg g ns) (hs:swapsWithSole [tg] e pos.line X.env=pure false:=by rfl) (hw:swappedStores [tg] e X.env=pure none:=by rfl)
    (h1:(assignEach [tg] X.env).map (·.2)=[assign tg X.env]:=by rfl):SS X (.Assign [tg] e pos) (dh fe g):=by
  intro su h σ H m rs rh D fin;refine⟨fun pins s I=>?_⟩
  refine wpAny_Assign_stores (thn (he su h σ H m rs rh _ (bY.bind (RV:=cW X) rs fin) pins s I) fun v s1 ⟨x,H1,I1,r1,u,h1',m1,up1,ru,rh1,fin1⟩=>?_) hs hw
  rw[h1];refine thn (hg u x su h1' σ H1 m1 ru (rs.up up1) rh1 (fun σ' H'=>D.nx σ' H') ?_ pins s1 v I1 r1) fun _ s2 ⟨σ2,H2,I2,_,q2⟩=>⟨σ2,H2,I2,q2⟩
  exact(bY.bind (RV:=cT X.K X.mg) (rs.up up1) fin1).imp fun σ' H' ⟨su',h2,m2,up2,rs2,rh2,fin2⟩=>fin2 σ' m2 H' .refl rs2 rh2
def bf (i:Nat) (fe:FE):FS:=fun su h=>(fe su h).st su fun u h1=>.nx (su.set i (some u)) h1
theorem Hl (i:Nat) {x:Str} {pos':Pos} (hN:X.N.Nodup) (hi:X.N[i]?=some x) (hx:Loc X.env.scope x) (he:SE X e fe) (hs:swapsWith e (some (.Name x pos')) pos.line X.env=pure false:=by rfl) (hf:X.fn x=true\/X.env.scope.names.lookup x=some .local:=by first | exact .inl rfl | exact .inr rfl | assumption) :
    SS X (.Assign [.Name x pos'] e pos) (bf i fe):=by
  intro su h σ H m rs rh D fin;exact eL (ps_set hN hi hx bO hs hf) (he su h σ H m rs rh _ ((bY.bind (RV:=cW X) rs fin).imp fun x H1 ⟨u,h1,m1,up1,r1,rh1,fin1⟩=>fin1 _ m1 H1 .refl ((rs.up up1).set i r1) rh1))
def lF (i j:Nat) (fa:FA):FS:=fun su h=>(fa su h).st su fun us h1=>match us with
  | [u,w]=>.nx ((su.set i (some u)).set j (some w)) h1
  | _=>.bad
theorem Ey {i j:Nat} {x y:Str} {a b:Expr} {fa:FA} {px py pt:Pos} {kt k2 pt2} (hc:X.calm=true) (hN:X.N.Nodup) (hi:X.N[i]?=some x) (hj:X.N[j]?=some y) (hij:i≠j)
    (hx:X.env.scope.names.lookup x=some .local) (hy:X.env.scope.names.lookup y=some .local) (ha:SA X [a,b] fa)
    (hw:swappedStores [.Tuple [.Name x px,.Name y py] kt pt] (.Tuple [a,b] k2 pt2) X.env=pure (some [x,y]))
    (hs:swapsWithSole [.Tuple [.Name x px,.Name y py] kt pt] (.Tuple [a,b] k2 pt2) pos.line X.env=pure false:=by rfl) :
    SS X (.Assign [.Tuple [.Name x px,.Name y py] kt pt] (.Tuple [a,b] k2 pt2) pos) (lF i j fa):=by
  intro su h σ H m rs rh D fin;refine eL (ps_par hc hN hi hj hij hx hy i5 hw hs) (ha su h σ H m rs rh _ ((bY.bind (RV:=gj X) rs fin).imp fun xs H1 ⟨us,h1,m1,up1,r1,rh1,fin1⟩=>?_))
  split at fin1
  . rename_i u w
    simp only[gj,a5] at r1;obtain⟨v1,_,e1,q1,v2,_,e2,q2,e3⟩:=r1;subst e3 e2 e1;exact⟨v1,v2,rfl,fin1 _ m1 H1 .refl (((rs.up up1).set i q1).set j q2) rh1⟩
  . exact False.elim fin1
def qw (i j l:Nat) (fa:FA):FS:=fun su h=>(fa su h).st su fun us h1=>match us with
  | [u,w,z]=>.nx (((su.set i (some u)).set j (some w)).set l (some z)) h1
  | _=>.bad
theorem Ez {i j l:Nat} {x y z:Str} {a b c:Expr} {fa:FA} {px py pz pt pos:Pos} {kt k2 pt2} (hc:X.calm=true) (hN:X.N.Nodup) (hi:X.N[i]?=some x) (hj:X.N[j]?=some y) (hl:X.N[l]?=some z) (hij:i≠j) (hil:i≠l) (hjl:j≠l)
    (hx:X.env.scope.names.lookup x=some .local) (hy:X.env.scope.names.lookup y=some .local) (hz:X.env.scope.names.lookup z=some .local) (ha:SA X [a,b,c] fa)
    (hw:swappedStores [.Tuple [.Name x px,.Name y py,.Name z pz] kt pt] (.Tuple [a,b,c] k2 pt2) X.env=pure (some [x,y,z]))
    (hs:swapsWithSole [.Tuple [.Name x px,.Name y py,.Name z pz] kt pt] (.Tuple [a,b,c] k2 pt2) pos.line X.env=pure false:=by rfl) :
    SS X (.Assign [.Tuple [.Name x px,.Name y py,.Name z pz] kt pt] (.Tuple [a,b,c] k2 pt2) pos) (qw i j l fa):=by
  intro su h σ H m rs rh D fin;refine eL (ps_par3 hc hN hi hj hl hij hil hjl hx hy hz i5 hw hs) (ha su h σ H m rs rh _ ((bY.bind (RV:=gj X) rs fin).imp fun xs H1 ⟨us,h1,m1,up1,r1,rh1,fin1⟩=>?_))
  split at fin1
  . rename_i u w z'
    simp only[gj,a5] at r1;obtain⟨v1,_,e1,q1,v2,_,e2,q2,v3,_,e4,q3,e3⟩:=r1;subst e3 e4 e2 e1;exact⟨v1,v2,v3,rfl,fin1 _ m1 H1 .refl ((((rs.up up1).set i q1).set j q2).set l q3) rh1⟩
  . exact False.elim fin1

noncomputable def gZ:Nat:=Classical.choose (⟨1099511627776,Nat.le_refl _⟩:∃ n:Nat,1099511627776<=n)
theorem CV:1099511627776<=gZ:=Classical.choose_spec (⟨1099511627776,Nat.le_refl _⟩:∃ n:Nat,1099511627776<=n)
theorem xE {n:Nat} (h:n < 1099511627776):n < gZ:=Nat.lt_of_lt_of_le h CV
def ik (c:FT) (b:FS):Nat->FS
  | 0=>fun _ _=>.bad
  | n + 1=>fun su h=>(c su h).st su fun k h1=>if k=true then(match b su h1 with
      | .nx su' h'=>ik c b n su' h'
      | .ct su' h'=>ik c b n su' h'
      | .bk su' h'=>.nx su' h'
      | r=>r) else .nx su h1
noncomputable def kY (c:FT) (b:FS):FS:=fun su h=>ik c b gZ su h
theorem Cs {body:List Stmt} {fb:FS} (hp:PassesOwn (model X.prog X.w) X.A X.env X.xe) (hc:ST X c fc) (hb:zS X body fb):SS X (.While c body [] pos) (kY fc fb):=by
  intro su h σ H m rs rh D fin;refine eL (ps_while hp iA j7) ?_;refine⟨fun n σ' H'=>∃ su' h' m',cT X.K X.mg m' H' h'.length su' σ'/\RH X.w X.K X.mg m' H' h'/\bY X m' H' h' (ik fc fb n su' h') D,⟨gZ,su,h,m,rs,rh,fin⟩,?_⟩
  rintro n σ' H' ⟨su',h',m',rs',rh',fin'⟩;cases n with
  | zero=>exact False.elim fin'
  | succ n=>
    refine hc su' h' σ' H' m' rs' rh' _ ((bY.bind (RV:=sV) rs' fin').imp fun k H1 ⟨k',h1,m1,up1,r1,rh1,fin1⟩=>?_)
    cases r1
    cases k with
    | false=>rw[if_neg Bool.false_ne_true] at fin1 ⊢;exact fin1 σ' m1 H1 .refl (rs'.up up1) rh1
    | true=>
      rw[if_pos rfl] at fin1 ⊢;refine⟨fun σ2 H2=>∃ su2 h2 m2,cT X.K X.mg m2 H2 h2.length su2 σ2/\RH X.w X.K X.mg m2 H2 h2/\bY X m2 H2 h2 (ik fc fb n su2 h2) D,fun σ2 H2 w=>⟨n,Nat.lt_succ_self _,w⟩,?_⟩
      refine hb su' h1 σ' H1 m1 (rs'.up up1) rh1 _ ?_;cases e:fb su' h1 with
      | nx su2 h2=>rw[e] at fin1;exact fun σ2 m2 H2 p r q=>⟨su2,h2,m2,r,q,bY.up p fin1⟩
      | ct su2 h2=>rw[e] at fin1;exact fun σ2 m2 H2 p r q=>⟨su2,h2,m2,r,q,bY.up p fin1⟩
      | bk su2 h2=>rw[e] at fin1;exact fin1
      | rt u h2=>rw[e] at fin1;exact fin1
      | ex c fs su2 h2=>rw[e] at fin1;exact fin1
      | bad=>rw[e] at fin1;exact fin1
end

abbrev Fn:=List U->Hm->Rs U
def Fw (W0:World) (K:PySem.W.Frag) (mg:Str->Option Value) (m:Nat->Addr) (H:Hp) (h:Hm) (r:Rs U) (Q:VK) (E:XK):Prop:=
  match r with
  | .ok u h'=>∀ v m' H',Up K m H h.length m' H' h'.length->RU K mg m' H' h'.length u v->RH W0 K mg m' H' h'->Q v H'
  | .ex c fs h'=>∀ cls d m' H',Up K m H h.length m' H' h'.length->RX K mg m' H' h'.length c fs cls d->RH W0 K mg m' H' h'->E cls d H'
  | .bad=>False
def Hi (W0:World) (K:PySem.W.Frag) (mg:Str->Option Value) (np:Nat) (F:Fn):Sp:=fun vs H Q E=>vs.length=np/\∃ us h m,a5 K mg m H (List.length h) us vs/\RH W0 K mg m H h/\Fw W0 K mg m H h (F us h) Q E
def dW (n np:Nat) (body:FS):Fn:=fun us h=>if us.length=np then(match body (us.map some++List.replicate (n - np) none) h with
  | .nx _ h'=>.ok .non h'
  | .rt u h'=>.ok u h'
  | .ex c fs _ h'=>.ex c fs h'
  | _=>.bad) else .bad
structure CM (P:Program) (w:World) (K:PySem.W.Frag) (mg:Str->Option Value) (base:Heap) (k:Nat) (f:Addr) (fd:FuncData) (ps:List Str) (sp:Sp):Prop where
  len:∀ vs H Q E,sp vs H Q E->vs.length=ps.length
  run:∀ (A:Around) (outer:List Env) (s:Shared) (H:Hp) (args:Args) (us:List Value) (vs:List V) (Q:VK) (E:XK),A.guards=some []->Room k A->Env0 P w K mg base A outer s H->BindsTo s fd args (ps.zip us)->Vals vs us->sp vs H Q E ->
    codeAny (model P w) A (.call (.ref f) args) (CR (CX P w) outer P w H s Q E) s
theorem CM.mono {P:Program} {w:World} {K:PySem.W.Frag} {mg:Str->Option Value} {base:Heap} {j k:Nat} {f:Addr} {fd:FuncData} {ps:List Str} {sp:Sp} (F:CM P w K mg base j f fd ps sp) (h:j<=k) :
    CM P w K mg base k f fd ps sp:=⟨F.len,fun A outer s H args us vs Q E hg hr=>F.run A outer s H args us vs Q E hg (hr.mono h)⟩
theorem F2 {P:Program} {w:World} {K:PySem.W.Frag} {mg:Str->Option Value} {base:Heap} {k:Nat} {f:Addr} {name qual:Str} {params:Arguments} {body:List Stmt} {scope:Scope} {dV kV doc pm cdv ct oc:Value} {an od:Option Addr}
    {osl:Array (Option Value)} {N ps:List Str} {sp:Sp} (lk:K.lookup f=some ⟨oc,od,.func (PySem.W.fnOf name qual params body scope dV kV doc pm an cdv ct),osl⟩) (hcd:PySem.W.codeIn K cdv qual=true) (S:FnScope N ps scope)
    (len:∀ vs H Q E,sp vs H Q E->vs.length=ps.length)
    (hbody:∀ (A:Around) (outer:List Env) (s:Shared) (H:Hp) (vs:List V) (Q:VK) (E:XK),A.guards=some []->Room k (A.deeper (envOfC qual scope s.heap.objs.size f cdv))->sp vs H Q E ->
      ∃ t,PSs (cxOf (CX P w) P w K mg base N qual scope f cdv A outer s H E) body t/\t { nx:=fun _ H'=>Q .non H',rt:=Q } (start N vs) H) :
    CM P w K mg base (k + 1) f (PySem.W.fnOf name qual params body scope dV kV doc pm an cdv ct) ps sp:=by
  refine⟨len,fun A outer s H args us vs Q E hgd hr e0 hb r hsp=>?_⟩
  have hl:=len _ _ _ _ hsp;have KX:K.In s.heap:=e0.mod.kin.keeps fun b o e=>(e0.bs b o e).1
  have lim:s.heap.NoLimit:=e0.mod.nolimit.keeps fun b o e=>(e0.bs b o e).1
  have hkind:∀ y∈ps.zip us,scope.names.lookup y.1=some .local\/(scope.names.lookup y.1=some .cell/\((cellsFrom (s.heap.objs.size + 1) scope.names []).lookup y.1).isSome=true):=fun⟨n,v⟩ hy=>by
    rcases S.par n (List.of_mem_zip hy).1 with q | q
    . exact .inl q
    . exact .inr ⟨q,PySem.W.cellsFrom_some _ _ _ (.inl q)⟩
  refine codeAny_call_function hr.depth (KX _ _ lk) rfl S.co S.gen rfl (PySem.W.codeRec_of KX hcd) (hb _ _ _ _ ?_);refine wpAny_newFunctionEnv_cells S.kind hkind fun env he s1 x=>?_
  subst he;refine⟨lim.keeps x.toInCall.keep,codeAny_func ?_⟩;obtain⟨t,ht,hq⟩:=hbody A outer s H vs Q E hgd (hr.deeper _) hsp;have I:Inv (cxOf (CX P w) P w K mg base N qual scope f cdv A outer s H E) [] (start N vs) H s1:=inv_start S hr.hd e0 hl r x;refine wpAny_mono (ht.run [] s1 (start N vs) H _ I hq) (fun fl s' hs=>?_) fun e s' hs=>hs
  have fin:∀ {σ':Sg} {H':Hp} {v:V} {u:Value},Inv (cxOf (CX P w) P w K mg base N qual scope f cdv A outer s H E) [] σ' H' s'->RelV v u->Q v H'->CE outer P w H s Q u s':=
    fun {σ' H' v u} J rv q=>⟨v,H',J.os,J.bare,J.base,J.hok,rv,q⟩
  cases fl with
  | ret u=>
    obtain⟨v,σ',H',J,rv,q⟩:=hs;exact fin J rv q
  | next=>
    obtain⟨σ',H',J,q⟩:=hs;exact fin (v:=V.non) (u:=Value.none) J rfl q
  | brk=>
    obtain⟨_,_,_,q⟩:=hs;exact False.elim q
  | cont=>
    obtain⟨_,_,_,q⟩:=hs;exact False.elim q
theorem Ef {X:Cx} {k:Nat} {f:Addr} {fd:FuncData} {ps:List Str} {sp:Sp} {dvs:List V} {ds:List Value} {E:XK} {pins:List (Addr × Obj)} {σ:Sg} {H:Hp} {s:Shared} {Q:VK} {us:List Value} {vs:List V} (F:CM X.prog X.w X.K X.mg X.base k f fd ps sp) (hgd:X.A.guards=some []) (hr:Room k X.A) (hb:Binds X.K fd ps ds) (hd:Vals dvs ds) (hx:PassesAt (CX X.prog X.w) X σ E)
    (I:Inv X pins σ H s) (r:Vals vs us) (h:sp (vs++dvs) H Q E):wpAny (model X.prog X.w) X.A (call (.ref f) us) (EP X pins σ Q) X.xe s:=by
  have r2:Vals (vs++dvs) (us++ds):=r.append hd;have hl:(us++ds).length=ps.length:=by rw[<- r2.length];exact F.len _ _ _ _ h
  refine wpAny_call (codeAny_mono (F.run X.A X.stack s H ⟨us,[]⟩ (us++ds) (vs++dvs) Q E hgd hr I.env0 (hb s us I.kIn hl) r2 h) fun r s' hq=>?_)
  cases r with
  | error e=>exact hx pins H s e s' I hq
  | ok fl=>
    cases fl with
    | ret u=>exact I.after hq
    | next=>exact False.elim hq
    | brk=>exact False.elim hq
    | cont=>exact False.elim hq
structure dA (P:Program) (w:World) (K:PySem.W.Frag) (mg:Str->Option Value) (base:Heap) (k:Nat) (f:Addr) (np:Nat) (F:Fn):Prop where
  kp:PySem.W.keepIn K (.ref f)=true
  len:∀ us h,us.length≠np->F us h=.bad
  ok:∃ fd ps,CM P w K mg base k f fd ps (Hi w K mg np F)/\Binds K fd ps []
structure dw (P:Program) (w:World) (K:PySem.W.Frag) (mg:Str->Option Value) (base:Heap) (k:Nat) (f:Addr) (fd:FuncData) (ps:List Str) (np:Nat) (F:Fn):Prop where
  kp:PySem.W.keepIn K (.ref f)=true
  len:∀ us h,us.length≠np->F us h=.bad
  fn:CM P w K mg base k f fd ps (Hi w K mg np F)
theorem dw.u {P:Program} {w:World} {K:PySem.W.Frag} {mg:Str->Option Value} {base:Heap} {k:Nat} {f:Addr} {fd:FuncData} {ps:List Str} {np:Nat} {F:Fn} (D:dw P w K mg base k f fd ps np F) (hb:Binds K fd ps []):dA P w K mg base k f np F:=⟨D.kp,D.len,fd,ps,D.fn,hb⟩
theorem mj {K:PySem.W.Frag} {mg:Str->Option Value} {m:Nat->Addr} {H:Hp} {n:Nat}:∀ {us:List U} {vs:List V} (k:Nat),a5 K mg m H n us vs->cT K mg m H n (us.map some++List.replicate k none) (vs.map some++List.replicate k none)
  | [],vs,k,r=>by
    simp only[a5] at r;subst r;simp only[List.map_nil,List.nil_append]
    induction k with
    | zero=>exact rfl
    | succ k ih=>rw[List.replicate_succ,List.replicate_succ];exact⟨none,_,rfl,ih⟩
  | u::us,vs,k,r=>by
    simp only[a5] at r;obtain⟨v,r',e,h1,h2⟩:=r;subst e;exact⟨v,_,rfl,h1,mj k h2⟩
section
variable {P:Program} {w:World} {K:PySem.W.Frag} {mg:Str->Option Value} {base:Heap}
structure Good (X:Cx) (j:Nat):Prop where
  nd:X.N.Nodup
  calm:X.calm=true
  pass:PassesOwn (model X.prog X.w) X.A X.env X.xe
  room:Room j X.A
  gd:X.A.guards=some []
structure GoodW (X:Cx):Prop where
  nd:X.N.Nodup
  F5:X.A.units + 65 < cLine
  gd:X.A.guards=some []
theorem GoodW.hu {X:Cx} (g:GoodW X):X.A.units + 64 < cLine:=by have:=g.F5;omega
theorem GoodW.Ig {X:Cx} (g:GoodW X):X.A.units + 1 < cLine:=by have:=g.F5;omega
theorem Good.weak {X:Cx} {j:Nat} (g:Good X j):GoodW X:=⟨g.nd,by have:=g.room.un;omega,g.gd⟩
instance {X:Cx} {j:Nat}:CoeHead (Good X j) (GoodW X):=⟨Good.weak⟩
theorem Good.hu {X:Cx} {j:Nat} (g:Good X j):X.A.units + 64 < cLine:=by have:=g.room.un;omega
theorem Good.Ig {X:Cx} {j:Nat} (g:Good X j):X.A.units + 1 < cLine:=by have:=g.room.un;omega
theorem Good.F5 {X:Cx} {j:Nat} (g:Good X j):X.A.units + 65 < cLine:=by have:=g.room.un;omega
structure Top (X:Cx) (qual:Str) (f:Addr):Prop where
  st:X.stack=X.env::X.outer
  fr:X.env.frame=some X.env.locals
  q:X.env.qual=qual++".<locals>."
  cd:X.env.code=.ref (FQ X.K f)
theorem vn {K:PySem.W.Frag} {f:Addr} {x qual:Str} {params:Arguments} {body:List Stmt} {scope:Scope} {dV kV doc pm cdv ct oc:Value} {an od:Option Addr} {osl:Array (Option Value)} (lk:K.lookup f=some ⟨oc,od,.func (PySem.W.fnOf x qual params body scope dV kV doc pm an cdv ct),osl⟩) (hcd:PySem.W.codeIn K cdv qual=true):cdv=.ref (FQ K f):=by
  unfold FQ;rw[lk];cases cdv with
  | ref c=>rfl
  | _=>cases hcd
theorem FU {x qual:Str} {params:Arguments} {body:List Stmt} {scope:Scope} {dvs:List V} {kws:List (Str × V)} {f:Addr} {fd:FuncData} {N ps:List Str} {k n np:Nat} {fb:FS} (F:FunD K x qual params body scope dvs kws f fd) (S:FnScope N ps scope) (hn:N.length=n) (hp:ps.length=np)
    (hbody:∀ (X:Cx),X.prog=P->X.w=w->X.K=K->X.mg=mg->X.base=base->X.N=N->X.env.scope=scope->(∀ y,X.fn y=true)->Good X k->Top X qual f->zS X body fb):dw P w K mg base (k + 1) f fd ps np (dW n np fb):=by
  refine⟨F.kp,fun us h hne=>by unfold dW;rw[if_neg hne],?_⟩
  obtain⟨oc,od,dV,kV,doc,pm,an,cdv,ct,osl,rfl,lk,hcd,_,_⟩:=F.ex;refine F2 lk hcd S (fun vs H Q E h=>by rw[hp];exact h.1) (fun A outer s H vs Q E hgd hr hsp=>?_)
  obtain⟨hl,us,h,m,rus,rh,fin⟩:=hsp;have tk:=takes_of (X:=cxOf (CX P w) P w K mg base N qual scope f cdv A outer s H E) (E:=E) rfl rfl rfl rfl;have G:Good (cxOf (CX P w) P w K mg base N qual scope f cdv A outer s H E) k:=⟨S.nd,rfl,passes_of rfl,hr,hgd⟩;have ss:=hbody (cxOf (CX P w) P w K mg base N qual scope f cdv A outer s H E) rfl rfl rfl rfl rfl rfl rfl (fun _=>rfl) G ⟨rfl,rfl,rfl,vn lk hcd⟩
  refine⟨_,j7,?_⟩;have hst:L2.start N vs=vs.map some++List.replicate (n - np) none:=by unfold L2.start;rw[hn,hl]
  rw[hst];refine ss (us.map some++List.replicate (n - np) none) h _ H m (mj _ rus) rh _ ?_;unfold dW at fin;rw[if_pos (show us.length=np by rw[rus.length,hl])] at fin
  cases e:fb (us.map some++List.replicate (n - np) none) h with
  | nx su h'=>rw[e] at fin;exact fun σ' m' H' p _ q=>fin .non m' H' p (by simp only[RU]) q
  | rt u h'=>rw[e] at fin;exact fun v m' H' p r q=>fin v m' H' p r q
  | bk su h'=>rw[e] at fin;exact False.elim fin
  | ct su h'=>rw[e] at fin;exact False.elim fin
  | ex c fs su h'=>rw[e] at fin;exact⟨_,tk,fun cls d σ' m' H' p _ x q=>fin cls d m' H' p x q⟩
  | bad=>rw[e] at fin;exact False.elim fin
end
section
variable {X:Cx} {e:Expr} {es:List Expr} {fa:FA} {F:Fn} {k j np:Nat} {f:Addr} {x:Str} {p pos:Pos}
def aC (F:Fn) (fa:FA):FE:=fun su h=>(fa su h).bind fun us h1=>F us h1
theorem tV {σ:Sg} {m:Nat->Addr} {H:Hp} {h:Hm} {r:Rs U} {Q:VK} (fin:Fin X σ m H h (cW X) r Q):∃ E:XK,Fw X.w X.K X.mg m H h r Q E/\PassesAt (CX X.prog X.w) X σ E:=by
  cases r with
  | ok u h'=>exact⟨fun _ _ _=>False,fin,fun pins H s e s' I c=>by
      obtain⟨a,B,H',cls,d,_,_,_,_,_,_,_,z⟩:=c;exact z.elim⟩
  | ex c fs h'=>
    obtain⟨W,t,k⟩:=fin;exact⟨fun cls d H'=>W cls d σ H',fun cls d m' H'=>k cls d m' H',fun pins H s e s' I c=>t e s' (XE.of_call I (fun _ _ _ h=>h) c)⟩
  | bad=>exact False.elim fin
theorem aJ (G:Good X j) (D:dA X.prog X.w X.K X.mg X.base k f np F) (hk:k<=j) (hg:Gl X x) (hm:X.mg x=some (.ref f)) (ha:SA X (e::es) fa) (hdb:(x == ("__debug__" : Str))=false:=by decide)
    (he:starEach (e::es) X.env=(false,eval e X.env)::starEach es X.env:=by rfl) (hpl:(backTo pos (starEach es X.env)).any (·.1)=false:=by rfl):SE X (.Call (.Name x p) (e::es) [] pos) (aC F fa):=by
  intro su h σ H m rs rh Q fin;refine⟨fun pins s I=>?_⟩
  obtain⟨kp,dl,fd,ps,Fo,hb⟩:=D;refine wpAny_Call_Name_kw (ld_glob I hg hm ?_ hdb);refine PySem.W.callWith_K (h₀:=X.base) I.ok.mod.kin kp (thn (ha su h σ H m rs rh _ (Fin.bind (RV:=gj X) fin) pos pins s I) fun us s1 ⟨vs,H1,I1,r,⟨us',h1,m1,up1,rus,rh1,fin1⟩⟩=>⟨I1.kIn,?_⟩) he hpl
  obtain⟨E,fc,pa⟩:=tV fin1
  have hl:vs.length=np:=by
    by_cases z:us'.length=np
    . rw[<- rus.length];exact z
    . rw[dl us' h1 z] at fin1;exact False.elim fin1
  exact Ef (E:=E) (dvs:=[]) Fo G.gd (G.room.mono hk) hb .nil pa I1 r (by rw[List.append_nil];exact⟨hl,us',h1,m1,rus,rh1,fc⟩)
end
end UL

namespace PySem
open Sem (wp)
open AutoSeq1 (wpAny_loadPart')
theorem jz (l:Addr) (items:Array Value) (n:Nat) (dct:Option Addr) (sl:Array (Option Value)) :
    Meets (Builtin.«enumerate.__new__» ⟨[.type "enumerate",.ref l],[]⟩) (fun _ R s=>s.heap.get? l=some { cls:=.type "tuple",dict:=dct,data:=.seq items n,slots:=sl } /\
      R (.ok (.ret (.ref (s.heap.push { cls:=.type "tuple_iterator",data:=.fields #[.ref l,.int 0 0] }).objs.size)))
        { s with heap:=(s.heap.push { cls:=.type "tuple_iterator",data:=.fields #[.ref l,.int 0 0] }).push { cls:=.type "enumerate",data:=.fields #[.none,.bool false,.ref s.heap.objs.size,rawInt 0,.none,.none] } }):=
  .of_wp fun prog w A R s h=>by
    obtain⟨hp,g,d,tk,os⟩:=s;obtain⟨hl,h⟩:=h
    have hsub:=sub_enumerate;have hL:Heap.IsTuple (Shared.heap ⟨hp,g,d,tk,os⟩) l items:=⟨_,hl,rfl,n,rfl⟩
    wp_walk using wpAny_loadPart' hl
    refine wpAny_stack_any fun st=>wpAny_pure ?_
    split
    . rename_i c _ _ _ _ _
      cases (c == Value.type "enumerate")
      . wp_walk using wpAny_loadPart' hl,wpAny_pyIter_tuple hL
        exact⟨_,rfl,h⟩
      . wp_walk using wpAny_loadPart' hl,wpAny_pyIter_tuple hL
        exact⟨_,rfl,h⟩
    . wp_walk using wpAny_loadPart' hl,wpAny_pyIter_tuple hL
      exact⟨_,rfl,h⟩
theorem jm {prog:Program} {w:World} {A:Around} {E:Value->Shared->Prop} {s:Shared} {l:Addr} {items:Array Value} {Q:Value->Shared->Prop} (hL:s.heap.IsTuple l items)
    (h:∀ h',IsEnum h' (s.heap.objs.size + 1) s.heap.objs.size 0 .none->h'.IsTupleIter s.heap.objs.size l 0->h'.objs.size=s.heap.objs.size + 2 ->
      (∀ b o,s.heap.get? b=some o->h'.get? b=some o)->Q (.ref (s.heap.objs.size + 1)) { s with heap:=h' }) :
    wpAny (model prog w) A (call (.type "enumerate") [.ref l]) Q E s:=by
  obtain⟨⟨c,dct,dt,sl⟩,hl,hc,n,hd⟩:=hL
  replace hc:c=.type "tuple" := hc
  replace hd:dt=.seq items n:=hd
  subst hc hd
  refine callType_new F.called_enumerate (by decide) (F.typeCall_enumerate_1 _) (F.newCall_enumerate_1 _) (fun obj=>F.args_object_init_2 obj _) F.entry_enumerate_new
    (jz l items n dct sl) ⟨hl,?_⟩
  have hz:(s.heap.push { cls:=.type "tuple_iterator",data:=.fields #[.ref l,.int 0 0] }).objs.size=s.heap.objs.size + 1:=Heap.size_push ..
  show _/\_;rw[hz]
  have he:IsEnum ((s.heap.push { cls:=.type "tuple_iterator",data:=.fields #[.ref l,.int 0 0] }).push
      { cls:=.type "enumerate",data:=.fields #[.none,.bool false,.ref s.heap.objs.size,rawInt 0,.none,.none] }) (s.heap.objs.size + 1) s.heap.objs.size 0 .none:=by
    have:=Heap.get?_push_size (s.heap.push { cls:=.type "tuple_iterator",data:=.fields #[.ref l,.int 0 0] })
      (o:={ cls:=.type "enumerate",data:=.fields #[.none,.bool false,.ref s.heap.objs.size,rawInt 0,.none,.none] }) rfl
    rw[hz] at this;exact this
  refine⟨⟨_,he,rfl⟩,h _ he ⟨_,Heap.get?_push_of_some _ (Heap.get?_push_size _ rfl),rfl,rfl⟩ (by rw[Heap.size_push,hz]) fun b o x=>Heap.get?_push_of_some _ (Heap.get?_push_of_some _ x)⟩
end PySem
namespace UL
open PySem PySem.Spec PyProof.Rows L2
variable [bo]
def HL (K:PySem.W.Frag) (a:Addr):It:=
  ⟨fun i H=>∃ (xs:List V) (x:V),SqT K H a xs/\xs[i]?=some x,fun i H v H'=>∃ T x,v=.ref T/\H T=none/\H'=upd H T (.tup [.int (i:Nat),x])/\∀ xs,SqT K H a xs->xs[i]?=some x,fun i H=>∃ xs:List V,SqT K H a xs/\xs.length<=i⟩
theorem wK {P:Program} {w:World} {K:PySem.W.Frag} {elts:List Expr} {kk:Nat} {tpos:Pos} (a e it:Addr) :
    Turn P w K (.Tuple elts kk tpos) (HL K a) [e,it] e (fun i h=>(∃ old,IsEnum h e it ((i:Nat):Int) old)/\h.IsTupleIter it a i/\e≠it) where
  mem:=by simp
  obj:=fun i h st b hb=>by
    obtain⟨⟨old,he⟩,⟨o,ho,hc,hd⟩,_⟩:=st;have e':b=e\/b=it:=by simpa using hb
    rcases e' with z | z
    . rw[z];exact⟨_,he,fun v q=>nomatch q⟩
    . rw[z];exact⟨o,ho,fun v q=>by rw[hd] at q;cases q⟩
  keep:=fun i h h' st k=>let ⟨⟨old,he⟩,hi,hne⟩:=st;⟨⟨old,k e (by simp) _ he⟩,hi.at fun o q=>k it (by simp) o q,hne⟩
  item:=by
    intro X hP hw hK hc i pins s σ H E I hf st hg;subst hP hw hK;obtain⟨⟨old,he⟩,hit,hne⟩:=st;obtain⟨xs,x,hq,hx⟩:=hg;obtain⟨its,rv,p,hz⟩:=I.tuple hq;obtain⟨u,hu,ru⟩:=rv.get hx;have hel:e < s.heap.objs.size:=Heap.lt_size he;have hil:it < s.heap.objs.size:=by obtain⟨_,q,_⟩:=hit;exact Heap.lt_size q
    have nel:∀ b,(∃ vs,∃ o,s.heap.get? b=some o/\o.data=.fields vs)->a≠b:=fun b ⟨vs,o,eb,db⟩ z=>by
      obtain⟨ob,e1,_,n,d1⟩:=p;rw[z,eb] at e1;cases e1
      rw[db] at d1;cases d1
    have nae:a≠e:=nel e ⟨_,_,he,rfl⟩
    have nai:a≠it:=by
      obtain⟨o,ho,hcc,hd⟩:=id hit;exact nel it ⟨_,o,ho,hd⟩
    have hi:i < its.toArray.size:=by
      have:=(gEsZ.mp hu).1;simpa using this
    refine wpAny_pyNext_enum_itemC (Draws.tuple (prog:=X.prog) (w:=X.w) (A:=X.A.in1) (I.ok.hd hc) it a nai its.toArray) he ⟨hit,show s.heap.IsTuple a its.toArray from p⟩ hi hne (by simp[hne,Ne.symm nae]) fun u' h' tk hu' ho hit' hT hsz hk=>?_
    have eu:u'=u:=by
      have hu2:its.toArray[i]?=some u:=by simpa using hu
      rw[hu2] at hu';exact(Option.some.inj hu').symm
    subst eu;refine⟨_,rfl,wpAny_letOwnedTupleGo_enum (s:={ s with heap:=h',toks:=tk + 1 }) ho fun h'' he' sb=>?_⟩
    have hT2:h''.get? s.heap.objs.size=some { cls:=.type "tuple",data:=.seq #[.int i tk,u'] }:=(sb.2 _ (Nat.ne_of_gt hel)).trans hT
    have new:ObjOk X.prog X.w (upd H s.heap.objs.size (.tup [.int (i:Nat),x])) h'' s.heap.objs.size (.tup [.int (i:Nat),x]):=
      ⟨by show 2<=sizeLine;decide,[.int i tk,u'],.cons ⟨_,rfl⟩ (.cons ru .nil),⟨_,hT2,rfl,_,rfl⟩⟩
    have I1:Inv X pins σ (upd H s.heap.objs.size (.tup [.int (i:Nat),x])) { s with heap:=h'',toks:=tk + 1 }:=
      I.turnedNew (ch:=[e,it]) (fun b ob hb q=>(sb.2 b (fun z=>hb (by simp[z]))).trans (hk b ob (fun z=>hb (by simp[z])) (fun z=>hb (by simp[z])) q)) hf (Nat.le_refl _) new
    refine⟨.ref s.heap.objs.size,_,I1,rfl,⟨_,x,rfl,I.hok.fresh (Nat.le_refl _),rfl,fun ys hy=>by rw[I.tuple_inj hy hq];exact hx⟩,⟨⟨u',?_⟩,hit'.1.at fun o q=>(sb.2 it (Ne.symm hne)).trans q,hne⟩,fun b hb=>?_⟩
    . have e1:((i + 1:Nat):Int)=(i:Int) + 1:=by omega
      rw[e1];exact he'
    . have hb':b < s.heap.objs.size:=by
        have e':b=e\/b=it:=by simpa using hb
        rcases e' with z | z
        . rw[z];exact hel
        . rw[z];exact hil
      rw[upd_ne (Nat.ne_of_lt hb')];exact(hf b hb).1
  done:=by
    intro X hP hw hK hc i pins s σ H E I hf st hg;subst hP hw hK;obtain⟨⟨old,he⟩,hit,hne⟩:=st;obtain⟨xs,hq,hx⟩:=hg;obtain⟨its,rv,p,hz⟩:=I.tuple hq;obtain⟨f0,f1,f2,f3,f4,f5⟩:=hf it (by simp)
    have hl:=rv.length;have hT:s.TypeIs (.ref e) "enumerate" := ⟨_,he,rfl⟩;unfold pyNext
    refine wpAny_bind (wpAny_attempt (wpAny_callSpecial?_slot (name:=Str.ofString "__next__") hT F.slot_enumerate_next
      (wpAny_call_entry F.slot_enumerate_next hT F.entry_enumerate_next ?_ (F.args_enumerate_next_1 _))))
    show wpAny _ _ (field (.ref e) 2 >>= _) _ _ _;refine wpAny_bind (wpAny_field he rfl (x:=.ref it) rfl ?_);obtain⟨o,ho,hcc,hd⟩:=id hit;obtain⟨ot,hot,_,nt,hdt⟩:=id p
    have nai:a≠it:=fun z=>by
      rw[z,ho] at hot;cases hot
      rw[hd] at hdt;cases hdt
    refine wpAny_bind (wpAny_nextOf_tuple_end (I.ok.hd hc) hit (show s.heap.IsTuple a its.toArray from p) (by simp;omega) fun h' x he' hx'=>?_)
    obtain⟨o,ho,hcc⟩:=hx';refine wpAny_bind (wpAny_isInstance (T := "StopIteration") (b:=true) ⟨o,ho,hcc⟩ isSubtype_stop ?_);exact wpAny_pure ⟨rfl,I.turned (t':=s.toks) (fun b o hb q=>he' b o hb q) f0 f1 f3 f4 f5⟩
  self:=fun A i s Q E st h=>let ⟨⟨_,he⟩,_⟩:=st;wpAny_pyIter_enum he h
end UL

namespace UL
open PySem PySem.Spec PyProof.Rows L2
variable [bo]

abbrev Src:=Nat->Hm->Option (Option U)
def srcOf (u:U):Src:=fun i h=>match u with
  | .tup us=>some us[i]?
  | .str z=>some (z[i]?.map fun c=>.str [c])
  | .ref r=>match h[r]? with
    | some (.lst us)=>some us[i]?
    | some (.fro us)=>some us[i]?
    | _=>none
  | _=>none
def km (u:U) (h:Hm):Bool:=match u with
  | .tup _=>true
  | .str _=>true
  | .ref r=>match h[r]? with
    | some (.lst _)=>true
    | some (.fro _)=>true
    | _=>false
  | _=>false
def eF (lo:Int) (n:Nat):Src:=fun i _=>some (if i < n then some (.int (lo + (i:Int))) else none)
def iu (u:U):Src:=fun i h=>(srcOf u i h).map fun o=>o.map fun x=>.tup [.int (i:Int),x]
def Cr (u w:U):Src:=fun i h=>match srcOf u i h,srcOf w i h with
  | some (some x),some (some y)=>some (some (.tup [x,y]))
  | some none,some _=>some none
  | some (some _),some none=>some none
  | _,_=>none
def cF (X:Cx):Rel Src It:=fun m H n src J=>∀ m' H' h',Up X.K m H n m' H' (List.length h')->RH X.w X.K X.mg m' H' h'->∀ i,match src i h' with
  | none=>True
  | some none=>J.stop i H'
  | some (some u)=>J.go i H'/\∀ x H'',J.yld i H' x H''->Up X.K m' H' h'.length m' H'' h'.length/\RU X.K X.mg m' H'' h'.length u x/\RH X.w X.K X.mg m' H'' h'
abbrev FI:=En->Hm->Rs Src
abbrev B9 (X:Cx) (tg iter:Expr) (σ:Sg) (H:Hp) (R:It->Hp->Prop):Prop:=pB (∀ pins s,Inv X pins σ H s->wpAny (model X.prog X.w) X.A (eval iter X.env) (fun v s1=>wpAny (model X.prog X.w) X.A (pyIter v) (PIE X pins σ tg R) X.xe s1) X.xe s)
theorem oC {X:Cx} {tg iter:Expr}:PI X tg iter (B9 X tg iter):=⟨fun pins s σ H R I h=>h.out pins s I⟩
def wV (X:Cx) (tg iter:Expr) (f:FI):Prop:=∀ su h σ H m,cT X.K X.mg m H h.length su σ->RH X.w X.K X.mg m H h->∀ R,Fin X σ m H h (cF X) (f su h) R->B9 X tg iter σ H R
section
variable {X:Cx} {tg e l:Expr} {fe:FE} {fa:FA} {p pos:Pos}
theorem E8 {iter:Expr} {wi:TI} {σ:Sg} {H:Hp} {R:It->Hp->Prop} (p:PI X tg iter wi) (q:wi σ H R):B9 X tg iter σ H R:=⟨fun pins s I=>p.run pins s σ H R I q⟩
theorem yG {pins:List (Addr × Obj)} {σ:Sg} {H:Hp} {s:Shared} {R:It->Hp->Prop} {a:Addr} {xs:List V} {E:Value->Shared->Prop} (I:Inv X pins σ H s) (hq:SqL X.K H a xs) (q:R (Itl X.K a) H):wpAny (model X.prog X.w) X.A (pyIter (.ref a)) (PIE X pins σ tg R) E s:=by
  obtain⟨its,rv,p,hz⟩:=I.list hq;refine wpAny_pyIter_list p.isList ?_;refine⟨s.heap.objs.size,[s.heap.objs.size],_,_,H,rfl,I.kept (t':=s.toks) fun b o e=>Heap.get?_push_of_some _ e,turn_list a _,⟨_,Heap.get?_push_size _ rfl,rfl,rfl⟩,fun b hb=>?_,q⟩
  have e:b=s.heap.objs.size:=by simpa using hb
  subst e;exact I.fpOk (Nat.le_refl _) (I.hok.fresh (Nat.le_refl _))
theorem AD {pins:List (Addr × Obj)} {σ:Sg} {H:Hp} {s:Shared} {R:It->Hp->Prop} {a:Addr} {xs:List V} {E:Value->Shared->Prop} (I:Inv X pins σ H s) (hq:SqT X.K H a xs) (q:R (Itt X.K a) H):wpAny (model X.prog X.w) X.A (pyIter (.ref a)) (PIE X pins σ tg R) E s:=by
  obtain⟨its,rv,p,hz⟩:=I.tuple hq;refine wpAny_pyIter_tuple (show s.heap.IsTuple a its.toArray from p) ?_
  refine⟨s.heap.objs.size,[s.heap.objs.size],_,_,H,rfl,I.kept (t':=s.toks) fun b o e=>Heap.get?_push_of_some _ e,turn_tuple a _,⟨_,Heap.get?_push_size _ rfl,rfl,rfl⟩,fun b hb=>?_,q⟩
  have e:b=s.heap.objs.size:=by simpa using hb
  subst e;exact I.fpOk (Nat.le_refl _) (I.hok.fresh (Nat.le_refl _))
theorem AB {pins:List (Addr × Obj)} {σ:Sg} {H:Hp} {s:Shared} {R:It->Hp->Prop} {x:Str} {t:Tok} {E:Value->Shared->Prop} (I:Inv X pins σ H s) (q:R (Its x) H):wpAny (model X.prog X.w) X.A (pyIter (.str x t)) (PIE X pins σ tg R) E s:=by
  cases ha:x.cps.all (· < 128)
  . exact wpAny_pyIter_wide ha (pi_one (tk:=s.toks) I _ (turn_str _ x t "str_iterator" (.inr rfl)) ⟨_,Heap.get?_push_size _ rfl,rfl,rfl⟩ q)
  . exact wpAny_pyIter_ascii ha (pi_one (tk:=s.toks) I _ (turn_str _ x t "str_ascii_iterator" (.inl rfl)) ⟨_,Heap.get?_push_size _ rfl,rfl,rfl⟩ q)
theorem yh {m:Nat->Addr} {H:Hp} {h:Hm} {r i:Nat} {o:Option U} (rh:RH X.w X.K X.mg m H h) (e:srcOf (.ref r) i h=some o):∃ us xs,o=us[i]?/\SqL X.K H (m r) xs/\a5 X.K X.mg m H h.length us xs:=by
  have e':(match h[r]? with
    | some (.lst us)=>some us[i]?
    | some (.fro us)=>some us[i]?
    | _=>none)=some o:=e
  cases q:h[r]? with
  | none=>rw[q] at e';cases e'
  | some ob=>
    have ro:=rh.at_ r ob q;rw[q] at e';cases ob with
    | lst us=>
      obtain⟨xs,ex,rs⟩:=ro;exact⟨us,xs,(Option.some.inj e').symm,SqL.of ex,rs⟩
    | fro us=>
      obtain⟨xs,ex,rs⟩:=ro;exact⟨us,xs,(Option.some.inj e').symm,ex.sq,rs⟩
    | cq _=>cases e'
    | dN _=>cases e'
    | ins _ _=>cases e'
    | exd _ _=>cases e'
    | dL _=>cases e'
theorem BY {m:Nat->Addr} {H:Hp} {n r:Nat} (hr:r < n):cF X m H n (srcOf (.ref r)) (Itl X.K (m r)):=by
  intro m' H' h' up rh i;have em:m' r=m r:=up.eq r hr;cases e:srcOf (.ref r) i h' with
  | none=>exact trivial
  | some o=>
    obtain⟨us,xs,eo,q,rs⟩:=yh rh e;rw[em] at q;cases o with
    | none=>exact⟨xs,q,by rw[<- rs.length];exact List.getElem?_eq_none_iff.mp eo.symm⟩
    | some u=>
      obtain⟨v,ev,rv⟩:=rs.get eo.symm;refine⟨⟨xs,v,q,ev⟩,fun x H'' ⟨e1,e3⟩=>?_⟩
      subst e1;have e4:=e3 xs q;rw[ev] at e4;cases e4
      exact⟨.refl,rv,rh⟩
theorem Ec {m:Nat->Addr} {H:Hp} {n:Nat} {us:List U} {a:Addr} {xs:List V} (t:SqT X.K H a xs) (rs:a5 X.K X.mg m H n us xs):cF X m H n (srcOf (.tup us)) (Itt X.K a):=by
  intro m' H' h' up rh i;have t':=up.tup _ _ t;have rs':=a5.up up _ _ rs;unfold srcOf;dsimp only;cases e2:us[i]? with
  | none=>exact⟨xs,t',by rw[<- rs'.length];exact List.getElem?_eq_none_iff.mp e2⟩
  | some u=>
    obtain⟨v,ev,rv⟩:=rs'.get e2;refine⟨⟨xs,v,t',ev⟩,fun x H'' ⟨e1,e3⟩=>?_⟩
    subst e1;have e4:=e3 xs t';rw[ev] at e4;cases e4
    exact⟨.refl,rv,rh⟩
theorem Eb {m:Nat->Addr} {H:Hp} {n:Nat} {z:List Nat}:cF X m H n (srcOf (.str z)) (Its (S z)):=by
  intro m' H' h' up rh i;unfold srcOf;dsimp only;cases e2:z[i]? with
  | none=>
    have h1:z.length<=i:=List.getElem?_eq_none_iff.mp e2;exact(show(S z).cps.size<=i by simpa[S] using h1)
  | some c=>
    have h1:i < z.length:=(gEsZ.mp e2).1;refine⟨(show i < (S z).cps.size by simpa[S] using h1),fun x H'' ⟨e1,c',e3,e4⟩=>?_⟩
    subst e1
    have e5:c'=c:=by
      have e6:(S z).cps[i]?=some c:=by simpa[S] using e2
      rw[e6] at e3;exact(Option.some.inj e3).symm
    subst e5;subst e4;exact⟨.refl,by simp only[RU],rh⟩
theorem qG {m:Nat->Addr} {H:Hp} {n k:Nat} {lo:Int}:cF X m H n (eF lo k) (Itr lo k):=by
  intro m' H' h' up rh i;unfold eF
  by_cases hi:i < k
  . rw[if_pos hi]
    refine⟨hi,fun x H'' ⟨e1,e2⟩=>?_⟩
    subst e1 e2;exact⟨.refl,by simp only[RU],rh⟩
  . rw[if_neg hi]
    exact Nat.le_of_not_lt hi
theorem uL {m:Nat->Addr} {H:Hp} {h:Hm} {T:Addr} {u w:U} {x y:V} (rh:RH X.w X.K X.mg m H h) (hT:H T=none) (r1:RU X.K X.mg m H h.length u x) (r2:RU X.K X.mg m H h.length w y) :
    Up X.K m H h.length m (upd H T (.tup [x,y])) h.length/\RU X.K X.mg m (upd H T (.tup [x,y])) h.length (.tup [u,w]) (.ref T)/\RH X.w X.K X.mg m (upd H T (.tup [x,y])) h:=by
  have up:=Up.one (K:=X.K) (m:=m) (n:=h.length) (o:=.tup [x,y]) hT;refine⟨up,?_,rh.one hT⟩;simp only[RU];refine⟨T,[x,y],rfl,SqT.of upd_same,?_⟩;simp only[a5];exact⟨x,_,rfl,RU.up up _ _ r1,y,_,rfl,RU.up up _ _ r2,rfl⟩
theorem zi {m:Nat->Addr} {H:Hp} {n r:Nat} (hr:r < n):cF X m H n (iu (.ref r)) (Ite X.K (m r)):=by
  intro m' H' h' up rh i;have em:m' r=m r:=up.eq r hr;unfold iu;cases e:srcOf (.ref r) i h' with
  | none=>exact trivial
  | some o=>
    obtain⟨us,xs,eo,q,rs⟩:=yh rh e;rw[em] at q;cases o with
    | none=>exact⟨xs,q,by rw[<- rs.length];exact List.getElem?_eq_none_iff.mp eo.symm⟩
    | some u=>
      obtain⟨v,ev,rv⟩:=rs.get eo.symm;refine⟨⟨xs,v,q,ev⟩,fun z H'' ⟨T,y,e1,e2,e3,e4⟩=>?_⟩
      subst e1 e3;have e5:=e4 xs q;rw[ev] at e5;cases e5
      exact uL rh e2 (by simp only[RU]) rv
theorem zj {m:Nat->Addr} {H:Hp} {n:Nat} {us:List U} {a:Addr} {xs:List V} (t:SqT X.K H a xs) (rs0:a5 X.K X.mg m H n us xs):cF X m H n (iu (.tup us)) (HL X.K a):=by
  intro m' H' h' up rh i;have q:=up.tup _ _ t;have rs:=a5.up up _ _ rs0
  show(match (some us[i]?:Option (Option U)).map (fun o=>o.map fun x=>U.tup [.int (i:Int),x]) with
    | none=>True
    | some none=>(HL X.K a).stop i H'
    | some (some u)=>(HL X.K a).go i H'/\∀ x H'',(HL X.K a).yld i H' x H''->Up X.K m' H' h'.length m' H'' h'.length/\RU X.K X.mg m' H'' h'.length u x/\RH X.w X.K X.mg m' H'' h')
  cases eo:us[i]? with
  | none=>exact⟨xs,q,by rw[<- rs.length];exact List.getElem?_eq_none_iff.mp eo⟩
  | some u=>
    obtain⟨v,ev,rv⟩:=rs.get eo;refine⟨⟨xs,v,q,ev⟩,fun z H'' ⟨T,y,e1,e2,e3,e4⟩=>?_⟩
    subst e1 e3;have e5:=e4 xs q;rw[ev] at e5;cases e5
    exact uL rh e2 (by simp only[RU]) rv
def dZ (fe:FE):FI:=fun su h=>(fe su h).bind fun u h1=>if km u h1=true then .ok (srcOf u) h1 else .bad
theorem gm (he:SE X e fe):wV X tg e (dZ fe):=by
  intro su h σ H m rs rh R fin;refine⟨fun pins s I=>?_⟩
  refine thn (he su h σ H m rs rh _ (Fin.bind (RV:=cW X) fin) pins s I) fun v s1 ⟨x,H1,I1,r1,u,h1,m1,up1,ru,rh1,fin1⟩=>?_
  split at fin1
  . rename_i hs
    cases u with
    | tup us=>
      simp only[cW,RU] at ru;obtain⟨a,xs,e1,t,rxs⟩:=ru;subst e1;cases r1
      exact AD I1 t (fin1 _ m1 H1 .refl (Ec t rxs) rh1)
    | str z=>
      simp only[cW,RU] at ru;subst ru;obtain⟨t,rfl⟩:=r1;exact AB I1 (fin1 _ m1 H1 .refl Eb rh1)
    | ref r=>
      simp only[cW,RU] at ru;obtain⟨hr,e1⟩:=ru;subst e1;cases r1
      have q:∃ us,h1[r]?=some (.lst us)\/h1[r]?=some (.fro us):=by
        unfold km at hs;dsimp only at hs;split at hs
        . rename_i us q;exact⟨us,.inl q⟩
        . rename_i us q;exact⟨us,.inr q⟩
        . cases hs
      obtain⟨us,q⟩:=q
      have q2:∃ xs,SqL X.K H1 (m1 r) xs:=by
        rcases q with q | q
        . obtain⟨xs,ex,_⟩:=rh1.at_ r _ q;exact⟨xs,SqL.of ex⟩
        . obtain⟨xs,ex,_⟩:=rh1.at_ r _ q;exact⟨xs,ex.sq⟩
      obtain⟨xs,q2⟩:=q2;exact yG I1 q2 (fin1 _ m1 H1 .refl (BY hr) rh1)
    | _=>cases hs
  . exact False.elim fin1
def fB (fa:FA):FI:=fun su h=>(fa su h).bind fun us h1=>match us with
  | [.int j]=>if -(2 ^ 62)<=j/\j < 2 ^ 62 then .ok (eF 0 j.toNat) h1 else .bad
  | _=>.bad
def lH (fa:FA):FI:=fun su h=>(fa su h).bind fun us h1=>match us with
  | [.int i,.int j]=>if -(2 ^ 62)<=i/\i < 2 ^ 62/\-(2 ^ 62)<=j/\j < 2 ^ 62 then .ok (eF i (j - i).toNat) h1 else .bad
  | _=>.bad
theorem wB {K:PySem.W.Frag} {mg:Str->Option Value} {m:Nat->Addr} {H:Hp} {n:Nat} {i:Int} {v:V} (r:RU K mg m H n (.int i) v):v=.int i:=by simpa only[RU] using r
theorem gL {a:Expr} {p pos:Pos} (hg:Gl X "range") (hm:X.mg "range" = none) (ha:SA X [a] fa) (hs:starEach [a] X.env=[(false,eval a X.env)]:=by rfl):wV X tg (.Call (.Name "range" p) [a] [] pos) (fB fa):=by
  intro su h σ H m rs rh R fin;refine E8 (pi_range1 hg hm i5 hs) (ha su h σ H m rs rh _ ((Fin.bind (RV:=gj X) fin).imp fun xs H1 ⟨us,h1,m1,up1,r1,rh1,fin1⟩=>?_))
  split at fin1
  . rename_i j
    split at fin1
    . rename_i hb
      simp only[gj,a5] at r1;obtain⟨v,_,e1,q1,e2⟩:=r1;subst e2 e1;exact⟨j,by rw[wB q1],hb.1,hb.2,fin1 _ m1 H1 .refl qG rh1⟩
    . exact False.elim fin1
  . exact False.elim fin1
theorem yF {a b:Expr} {p pos:Pos} (hg:Gl X "range") (hm:X.mg "range" = none) (ha:SA X [a,b] fa) (hs:starEach [a,b] X.env=[(false,eval a X.env),(false,eval b X.env)]:=by rfl) (hs2:starEach [b] X.env=[(false,eval b X.env)]:=by rfl):wV X tg (.Call (.Name "range" p) [a,b] [] pos) (lH fa):=by
  intro su h σ H m rs rh R fin;refine E8 (pi_range2 hg hm i5 hs hs2) (ha su h σ H m rs rh _ ((Fin.bind (RV:=gj X) fin).imp fun xs H1 ⟨us,h1,m1,up1,r1,rh1,fin1⟩=>?_))
  split at fin1
  . rename_i i j
    split at fin1
    . rename_i hb
      simp only[gj,a5] at r1;obtain⟨v,_,e1,q1,w,_,e2,q2,e3⟩:=r1;subst e3 e2 e1;exact⟨i,j,by rw[wB q1,wB q2],hb,fin1 _ m1 H1 .refl qG rh1⟩
    . exact False.elim fin1
  . exact False.elim fin1
def jc (fa:FA):FI:=fun su h=>(fa su h).bind fun us h1=>match us with
  | [.ref r]=>if km (.ref r) h1=true then .ok (iu (.ref r)) h1 else .bad
  | [.tup ws]=>.ok (iu (.tup ws)) h1
  | _=>.bad
theorem rN {tpos:Pos} {elts:List Expr} {kk:Nat} (hg:Gl X "enumerate") (hm:X.mg "enumerate" = none) (ha:SA X [e] fa) (hs:starEach [e] X.env=[(false,eval e X.env)]:=by rfl) :
    wV X (.Tuple elts kk tpos) (.Call (.Name "enumerate" p) [e] [] pos) (jc fa):=by
  intro su h σ H m rs rh R fin;refine⟨fun pins s I=>?_⟩
  refine Call_ (ld_blt I hg hm boot_enumerate (PyProof.Rows.callWith_type1 (thn (ha su h σ H m rs rh _ (Fin.bind (RV:=gj X) fin) pos pins s I) fun us s1 ⟨vs,H1,I1,rv,us',h1,m1,up1,r1,rh1,fin1⟩=>?_) hs rfl))
  split at fin1
  . rename_i r
    split at fin1
    . rename_i hsrc
      simp only[gj,a5,RU] at r1;obtain⟨v,_,e1,⟨hr,q1⟩,e2⟩:=r1;subst e2 e1 q1;cases rv with
      | cons rv1 rr=>
        cases rr
        cases rv1
        have q:∃ us,h1[r]?=some (.lst us)\/h1[r]?=some (.fro us):=by
          unfold km at hsrc;dsimp only at hsrc;split at hsrc
          . rename_i us q;exact⟨us,.inl q⟩
          . rename_i us q;exact⟨us,.inr q⟩
          . cases hsrc
        obtain⟨us,q⟩:=q
        have q2:∃ xs,SqL X.K H1 (m1 r) xs:=by
          rcases q with q | q
          . obtain⟨xs,ex,_⟩:=rh1.at_ r _ q;exact⟨xs,SqL.of ex⟩
          . obtain⟨xs,ex,_⟩:=rh1.at_ r _ q;exact⟨xs,ex.sq⟩
        obtain⟨xs,q2⟩:=q2;obtain⟨its,rvl,p',hz⟩:=I1.list q2;refine call_enumerate_list p'.isList fun h' he hit hsz hk=>wpAny_pyIter_enum he ?_
        have I2:Inv X pins σ H1 { s1 with heap:=h' }:=I1.kept (t':=s1.toks) hk
        refine⟨s1.heap.objs.size + 1,[s1.heap.objs.size + 1,s1.heap.objs.size],_,_,H1,rfl,I2,turn_enum (m1 r) (s1.heap.objs.size + 1) s1.heap.objs.size,⟨⟨.none,he⟩,hit,Nat.succ_ne_self _⟩,fun b hb=>?_,fin1 _ m1 H1 .refl (zi hr) rh1⟩
        have e':b=s1.heap.objs.size + 1\/b=s1.heap.objs.size:=by simpa using hb
        have hle:s1.heap.objs.size<=b:=by
          rcases e' with z | z
          . rw[z];exact Nat.le_add_right _ _
          . rw[z];exact Nat.le_refl _
        exact I1.fpOk hle (I1.hok.fresh hle)
    . exact False.elim fin1
  . rename_i ws
    simp only[gj,a5,RU] at r1;obtain⟨v,_,e1,⟨a,xs,q1,t,rxs⟩,e2⟩:=r1;subst e2 e1 q1;cases rv with
    | cons rv1 rr=>
      cases rr
      cases rv1
      obtain⟨its,rvl,p',hz⟩:=I1.tuple t;refine jm (show s1.heap.IsTuple a its.toArray from p') fun h' he hit hsz hk=>wpAny_pyIter_enum he ?_
      have I2:Inv X pins σ H1 { s1 with heap:=h' }:=I1.kept (t':=s1.toks) hk
      refine⟨s1.heap.objs.size + 1,[s1.heap.objs.size + 1,s1.heap.objs.size],_,_,H1,rfl,I2,wK a (s1.heap.objs.size + 1) s1.heap.objs.size,⟨⟨.none,he⟩,hit,Nat.succ_ne_self _⟩,fun b hb=>?_,fin1 _ m1 H1 .refl (zj t rxs) rh1⟩
      have e':b=s1.heap.objs.size + 1\/b=s1.heap.objs.size:=by simpa using hb
      have hle:s1.heap.objs.size<=b:=by
        rcases e' with z | z
        . rw[z];exact Nat.le_add_right _ _
        . rw[z];exact Nat.le_refl _
      exact I1.fpOk hle (I1.hok.fresh hle)
  . exact False.elim fin1
end

section
variable {X:Cx} {tg iter:Expr} {body:List Stmt} {fi:FI} {g:FG} {fb:FS} {pos:Pos} {ns:List Nat}
def cY (src:Src) (g:FG) (b:FS):Nat->Nat->FS
  | 0,_=>fun _ _=>.bad
  | n + 1,i=>fun su h=>match src i h with
    | none=>.bad
    | some none=>.nx su h
    | some (some u)=>(g u su h).st su fun su1 h1=>match b su1 h1 with
      | .nx su' h'=>cY src g b n (i + 1) su' h'
      | .ct su' h'=>cY src g b n (i + 1) su' h'
      | .bk su' h'=>.nx su' h'
      | r=>r
noncomputable def gb (fi:FI) (g:FG) (b:FS):FS:=fun su h=>(fi su h).st su fun src h1=>cY src g b gZ 0 su h1
abbrev IT (X:Cx) (tg:Expr) (v:V) (σ:Sg) (H:Hp) (Q:Sg->Hp->Prop):Prop:=pB (∀ pins s w,Inv X pins σ H s->RelV v w->wpAny (model X.prog X.w) X.A (assign tg X.env w) (fun _ s'=>∃ σ' H',Inv X pins σ' H' s'/\Q σ' H') X.xe s)
theorem BO:PG X tg (IT X tg):=⟨fun pins s σ H v u Q I r h=>h.out pins s u I r⟩
theorem cF.up {m m1:Nat->Addr} {H H1:Hp} {n n1:Nat} {src:Src} {J:It} (r:cF X m H n src J) (p:Up X.K m H n m1 H1 n1):cF X m1 H1 n1 src J:=fun m' H' h' p'=>r m' H' h' (p.trans p')
theorem kW (hp:PassesOwn (model X.prog X.w) X.A X.env X.xe) (hc:X.calm=true) (hi:wV X tg iter fi) (hg:SG X tg g ns) (hb:zS X body fb) (hs:∀ x,foldedSetIterable iter X.env x=pure x:=by intro _;rfl):SS X (.For tg iter body [] pos) (gb fi g fb):=by
  intro su h σ H m rs rh D fin;refine eL (ps_for hp hc oC BO j7 hs) (hi su h σ H m rs rh _ ((bY.bind (RV:=cF X) rs fin).imp fun J H1 ⟨src,h1,m1,up1,rj,rh1,fin1⟩=>?_))
  refine⟨fun i n σ' H'=>∃ su' h' m',cF X m' H' h'.length src J/\cT X.K X.mg m' H' h'.length su' σ'/\RH X.w X.K X.mg m' H' h'/\bY X m' H' h' (cY src g fb n i su' h') D,⟨gZ,su,h1,m1,rj,rs.up up1,rh1,fin1⟩,?_⟩
  rintro i n σ' H' ⟨su',h',m',rj',rs',rh',fin'⟩;cases n with
  | zero=>exact False.elim fin'
  | succ n=>
    have now:=rj' m' H' h' .refl rh' i;unfold cY at fin';cases e:src i h' with
    | none=>rw[e] at fin';exact False.elim fin'
    | some o=>
      rw[e] at fin' now;cases o with
      | none=>exact .inl ⟨now,fin' σ' m' H' .refl rs' rh'⟩
      | some u=>
        obtain⟨go,yl⟩:=now;refine .inr ⟨go,fun σ2 H2=>∃ su2 h2 m2,cF X m2 H2 h2.length src J/\cT X.K X.mg m2 H2 h2.length su2 σ2/\RH X.w X.K X.mg m2 H2 h2/\bY X m2 H2 h2 (cY src g fb n (i + 1) su2 h2) D,fun σ2 H2 w=>⟨n,Nat.lt_succ_self _,w⟩,fun x H'' y=>?_⟩
        obtain⟨upy,ry,rhy⟩:=yl x H'' y;refine⟨fun pins s w I rw'=>?_⟩
        have fin2:bY X m' H'' h' ((g u su' h').st su' fun su1 h1=>match fb su1 h1 with
            | .nx su' h'=>cY src g fb n (i + 1) su' h'
            | .ct su' h'=>cY src g fb n (i + 1) su' h'
            | .bk su' h'=>.nx su' h'
            | r=>r) D:=bY.up upy fin'
        refine thn (hg u x su' h' σ' H'' m' ry (rs'.up upy) rhy _ (bY.bind (RV:=cT X.K X.mg) (rs'.up upy) fin2) pins s w I rw') fun _ s' ⟨σ2,H2,I2,_,su2,h2,m2,up2,rs2,rh2,fin3⟩=>⟨σ2,H2,I2,?_⟩
        refine hb su2 h2 σ2 H2 m2 rs2 rh2 _ ?_;have rj2:=(rj'.up upy).up up2;cases e3:fb su2 h2 with
        | nx su3 h3=>rw[e3] at fin3;exact fun σ3 m3 H3 p r q=>⟨su3,h3,m3,rj2.up p,r,q,bY.up p fin3⟩
        | ct su3 h3=>rw[e3] at fin3;exact fun σ3 m3 H3 p r q=>⟨su3,h3,m3,rj2.up p,r,q,bY.up p fin3⟩
        | bk su3 h3=>rw[e3] at fin3;exact fin3
        | rt u h3=>rw[e3] at fin3;exact fin3
        | ex c fs su3 h3=>rw[e3] at fin3;exact fin3
        | bad=>rw[e3] at fin3;exact fin3
end
end UL
namespace UL
open PySem PySem.Spec PyProof.Rows L2
variable [bo]
structure sU (X:Cx) (scope:Scope) (j:Nat) (Y:Cx):Prop where
  prog:Y.prog=X.prog
  w:Y.w=X.w
  K:Y.K=X.K
  mg:Y.mg=X.mg
  base:Y.base=X.base
  N:Y.N=X.N
  fn:Y.fn=fun x=>scope.names.lookup x == some .cell
  scope:Y.env.scope=relS scope X.env.scope
  good:Good Y j
theorem lT {X:Cx} {j:Nat} (G:Good X j) (s:Shared) (H:Hp) (scope:Scope) (C:Addr) (cl:List (Str × Addr)) (fp:List Addr):sU X scope j (X.blk s H scope (compEnvC scope cl C X.env) fp):=
  ⟨rfl,rfl,rfl,rfl,rfl,rfl,rfl,rfl,⟨G.nd,G.calm,PassesOwn.never,G.room,G.gd⟩⟩
def iw (su:En):List Nat->En
  | []=>su
  | v::vs=>(iw su vs).set v none
theorem cT.wipe {K:PySem.W.Frag} {mg:Str->Option Value} {m:Nat->Addr} {H:Hp} {n:Nat} {su:En} {σ:Sg} (r:cT K mg m H n su σ):∀ vs:List Nat,cT K mg m H n (iw su vs) (L2.wipe σ vs)
  | []=>r
  | v::vs=>cT.sF v (cT.wipe r vs)
theorem fF {σ:Sg}:∀ (vs:List Nat) (i:Nat),(L2.wipe σ vs)[i]?=if i∈vs/\i < σ.length then some none else σ[i]?
  | [],i=>by simp[L2.wipe]
  | v::vs,i=>by
    show((L2.wipe σ vs).set v none)[i]?=_;rw[List.getElem?_set,wipe_length,fF vs i]
    by_cases h1:v=i
    . subst h1
      by_cases h2:v < σ.length
      . simp[h2]
      . simp[h2]
    . have h3:(i∈v::vs) ↔ i∈vs:=by simp[Ne.symm h1]
      rw[if_neg h1];simp only[h3]
theorem Off.wipe {ns vs:List Nat} {σ σ':Sg} (o:Off ns σ σ') (h:∀ i∈ns,i∈vs):L2.wipe σ' vs=L2.wipe σ vs:=by
  apply List.ext_getElem?;intro i;rw[fF,fF,o.1]
  by_cases hi:i∈vs/\i < σ.length
  . rw[if_pos hi,if_pos hi]
  . rw[if_neg hi,if_neg hi]
    by_cases h2:i∈vs
    . have h3:¬ i < σ.length:=fun z=>hi ⟨h2,z⟩
      rw[List.getElem?_eq_none (by rw[o.1];omega),List.getElem?_eq_none (by omega)]
    . exact o.2 i fun z=>h2 (h i z)
theorem qZ (σ:Sg) (vs:List Nat):L2.wipe (L2.wipe σ vs) vs=L2.wipe σ vs:=by
  apply List.ext_getElem?;intro i;rw[fF,fF,wipe_length]
  by_cases hi:i∈vs/\i < σ.length
  . rw[if_pos hi,if_pos hi]
  . rw[if_neg hi,if_neg hi]
def bx {α:Type}:Rs α->Rs α
  | .ex _ _ _=>.bad
  | r=>r
theorem Fin.quiet {X:Cx} {α β:Type} {σ:Sg} {m:Nat->Addr} {H:Hp} {h:Hm} {RV:Rel α β} {r:Rs α} {Q:β->Hp->Prop} (f:Fin X σ m H h RV (bx r) Q):DL r/\Fin X σ m H h RV r Q:=by
  cases r with
  | ok u h'=>exact⟨trivial,f⟩
  | ex c fs h'=>exact False.elim f
  | bad=>exact False.elim f
theorem Fin.blk {X Y:Cx} {α β:Type} {σ σ':Sg} {m:Nat->Addr} {H:Hp} {h:Hm} {RV RV':Rel α β} {r:Rs α} {Q Q':β->Hp->Prop} (hK:Y.K=X.K) (hm:Y.mg=X.mg) (hw:Y.w=X.w) (hR:RV'=RV) (f:Fin X σ m H h RV (bx r) Q) (hq:∀ v H',Q v H'->Q' v H'):Fin Y σ' m H h RV' r Q':=by
  obtain⟨n,f⟩:=f.quiet;subst hR;cases r with
  | ok u h'=>
    intro v m' H' p rr rh;rw[hK] at p rh;rw[hm,hw] at rh;exact hq _ _ (f v m' H' p rr rh)
  | ex c fs h'=>exact n.elim
  | bad=>exact f
def bQ (src:Src) (g:FG) (t:FT) (fe:FE) (D:Nat) (su0:En):Nat->Nat->Hm->Rs Unit
  | 0,_=>fun _=>.bad
  | n + 1,i=>fun h=>match src i h with
    | none=>.bad
    | some none=>.ok () h
    | some (some u)=>(bx (g u su0 h)).bind fun su1 h1=>(bx (t su1 h1)).bind fun k h2=>if k=true then
        ((bx (fe su1 h2)).bind fun y h3=>match h3[D]? with
          | some (.lst acc)=>if acc.length < 16777216 then bQ src g t fe D su0 n (i + 1) (h3.set D (.lst (acc++[y]))) else .bad
          | _=>.bad) else bQ src g t fe D su0 n (i + 1) h2
noncomputable def bj (fi:FI) (g:FG) (t:FT) (fe:FE) (vs:List Nat):FE:=fun su h=>(fi su h).bind fun src h1=>(bQ src g t fe h1.length (iw su vs) gZ 0 (h1++[.lst []])).bind fun _ h'=>.ok (.ref h1.length) h'
def b9:FT:=fun _ h=>.ok true h
def CH (X:Cx) (es:List Expr) (f:FT):Prop:=∀ su h σ H m,cT X.K X.mg m H h.length su σ->RH X.w X.K X.mg m H h->∀ Q,Fin X σ m H h (sV) (f su h) Q->pB (∀ pins s,Inv X pins σ H s ->
  wpAny (model X.prog X.w) X.A (forIn es true fun c r=>if r=true then do let ok <- isTrue c X.env (eval c X.env);pure (ForInStep.yield ok) else pure (ForInStep.yield r)) (TP X pins σ Q) X.xe s)
theorem d3 {X:Cx}:CH X [] b9:=fun su h σ H m rs rh Q fin=>⟨fun pins s I=>pts_nil.run pins s σ H Q I (fin true m H .refl rfl rh)⟩
theorem EE {X:Cx} {c:Expr} {t:FT} (h:ST X c t):CH X [c] t:=fun su h' σ H m rs rh Q fin=>⟨fun pins s I=>(pts_one iA).run pins s σ H Q I (h su h' σ H m rs rh Q fin)⟩
abbrev IV (X:Cx) (es:List Expr) (σ:Sg) (H:Hp) (Q:Bool->Hp->Prop):Prop:=pB (∀ pins s,Inv X pins σ H s ->
  wpAny (model X.prog X.w) X.A (forIn es true fun c r=>if r=true then do let ok <- isTrue c X.env (eval c X.env);pure (ForInStep.yield ok) else pure (ForInStep.yield r)) (TP X pins σ Q) X.xe s)
section
variable {X:Cx} {tg iter elt:Expr} {ifs:List Expr} {scope:Scope} {own:List (Str × Nat)} {pos:Pos} {fi:FI} {g:FG} {t:FT} {fe:FE} {j:Nat} {ns:List Nat}
def gB (X:Cx) (scope:Scope) (tg:Expr):TG:=fun v σ H Q=>∀ (s:Shared) (H0:Hp) (C:Addr) (cl:List (Str × Addr)) (fp:List Addr),IT (X.blk s H0 scope (compEnvC scope cl C X.env) fp) tg v σ H Q
def tB (X:Cx) (scope:Scope) (es:List Expr):TT:=fun σ H Q=>∀ (s:Shared) (H0:Hp) (C:Addr) (cl:List (Str × Addr)) (fp:List Addr),IV (X.blk s H0 scope (compEnvC scope cl C X.env) fp) es σ H Q
def eB (X:Cx) (scope:Scope) (e:Expr):TE:=fun σ H Q=>∀ (s:Shared) (H0:Hp) (C:Addr) (cl:List (Str × Addr)) (fp:List Addr),lJ (X.blk s H0 scope (compEnvC scope cl C X.env) fp) e σ H Q
theorem bind_assoc {α β γ:Type} (r:Rs α) (k:α->Hm->Rs β) (k2:β->Hm->Rs γ):(r.bind k).bind k2=r.bind fun a h=>(k a h).bind k2:=by cases r<;>rfl
theorem E2 {Q:VK} {su:En} {h:Hm} {σ:Sg} {H:Hp} {m:Nat->Addr} (G:Good X j) (rs:cT X.K X.mg m H h.length su σ) (rh:RH X.w X.K X.mg m H h)
    (hi:wV X tg iter fi) (fin:Fin X σ m H h (cW X) (bj fi g t fe (own.map (·.2)) su h) Q)
    (hg:∀ Y,sU X scope j Y->SG Y tg g ns) (ht:∀ Y,sU X scope j Y->CH Y ifs t) (he:∀ Y,sU X scope j Y->SE Y elt fe)
    (hns:∀ i∈ns,i∈own.map (·.2)):tLc (B9 X tg iter) (gB X scope tg) (tB X scope ifs) (eB X scope elt) (own.map (·.2)) σ H Q:=by
  refine hi su h σ H m rs rh _ ((Fin.bind (RV:=cF X) fin).imp fun J H1 ⟨src,h1,m1,up1,rj,rh1,fin1⟩=>?_)
  intro D hD;have rs1:=rs.up up1;have up2:=Up.new (K:=X.K) (m:=m1) (n:=h1.length) (p:=D) (o:=.lst []) hD;have rh2:=rh1.new (ob:=.lst []) hD ⟨[],upd_same,by simp only[a5]⟩
  refine⟨fun i n H'=>∃ h' m',h1.length < h'.length/\m' h1.length=D/\cF X m' H' h'.length src J/\cT X.K X.mg m' H' h'.length su σ/\RH X.w X.K X.mg m' H' h'/\Fin X σ m' H' h' (cW X) ((bQ src g t fe h1.length (iw su (own.map (·.2))) n i h').bind fun _ h''=>.ok (.ref h1.length) h'') Q,
    ⟨gZ,h1++[.lst []],ext m1 h1.length D,by rw[len_app];exact Nat.lt_succ_self _,cX,by rw[len_app];exact rj.up up2,by rw[len_app];exact rs1.up up2,rh2,?_⟩,?_⟩
  . exact Fin.up (h1:=h1++[.lst []]) (by rw[len_app];exact up2) fin1
  . rintro i n H' ⟨h',m',hlt,hmD,rj',rs',rh',fin'⟩
    cases n with
    | zero=>exact False.elim fin'
    | succ n=>
      have now:=rj' m' H' h' .refl rh' i;unfold bQ at fin';cases e:src i h' with
      | none=>rw[e] at fin';exact False.elim fin'
      | some o=>
        rw[e] at fin' now;cases o with
        | none=>
          refine .inl ⟨now,?_⟩;have:=fin' (.ref (m' h1.length)) m' H' .refl (by simp only[cW,RU];exact⟨hlt,trivial⟩) rh'
          rw[hmD] at this;exact this
        | some u=>
          obtain⟨go,yl⟩:=now
          refine .inr ⟨go,fun H2=>∃ h2 m2,h1.length < h2.length/\m2 h1.length=D/\cF X m2 H2 h2.length src J/\cT X.K X.mg m2 H2 h2.length su σ/\RH X.w X.K X.mg m2 H2 h2/\Fin X σ m2 H2 h2 (cW X) ((bQ src g t fe h1.length (iw su (own.map (·.2))) n (i + 1) h2).bind fun _ h''=>.ok (.ref h1.length) h'') Q,
            fun H2 w=>⟨n,Nat.lt_succ_self _,w⟩,fun x H'' y=>?_⟩
          obtain⟨upy,ry,rhy⟩:=yl x H'' y;have finy:=Fin.up upy fin';dsimp only at finy;rw[bind_assoc] at finy;intro s0 H0 C0 cl0 fp0;refine⟨fun pins s w I rw'=>?_⟩
          have bk:=lT G s0 H0 scope C0 cl0 fp0;have f1:=Fin.bind (RV:=cT X.K X.mg) finy;have gg:=hg _ bk u x (iw su (own.map (·.2))) h' (L2.wipe σ (own.map (·.2))) H'' m' (by rw[bk.K,bk.mg];exact ry) (by rw[bk.K,bk.mg];exact(rs'.up upy).wipe _) (by rw[bk.w,bk.K,bk.mg];exact rhy) _ (Fin.blk bk.K bk.mg bk.w (by rw[bk.K,bk.mg]) f1 fun _ _ q=>q) pins s w I rw'
          refine thn gg fun _ s' ⟨σ2,H2,I2,off,su2,h2,m2,up2,rs2,rh2,f2⟩=>⟨σ2,H2,I2,?_,?_⟩
          . rw[Off.wipe off hns,qZ]
          . rw[bind_assoc] at f2
            intro s1 H1' C1 cl1 fp1;refine⟨fun pins s I=>?_⟩
            have bk:=lT G s1 H1' scope C1 cl1 fp1;have f3:=Fin.bind (RV:=sV) f2;refine ht _ bk su2 h2 σ2 H2 m2 (by rw[bk.K,bk.mg];exact rs2) (by rw[bk.w,bk.K,bk.mg];exact rh2) _ (Fin.blk bk.K bk.mg bk.w rfl f3 fun k H3 ⟨k',h3,m3,up3,r3,rh3,f4⟩=>?_) pins s I
            cases r3
            have upA:=(upy.trans up2).trans up3;cases k with
            | false=>
              rw[if_neg Bool.false_ne_true] at f4 ⊢;exact⟨h3,m3,Nat.lt_of_lt_of_le hlt upA.le,by rw[upA.eq _ hlt];exact hmD,rj'.up upA,rs'.up upA,rh3,f4⟩
            | true=>
              rw[if_pos rfl] at f4 ⊢;rw[bind_assoc] at f4;intro s1 H1' C1 cl1 fp1;refine⟨fun pins s I=>?_⟩
              have bk:=lT G s1 H1' scope C1 cl1 fp1;have f5:=Fin.bind (RV:=cW X) f4;refine he _ bk su2 h3 σ2 H3 m3 (by rw[bk.K,bk.mg];exact rs2.up up3) (by rw[bk.w,bk.K,bk.mg];exact rh3) _ (Fin.blk bk.K bk.mg bk.w (by unfold cW;rw[bk.K,bk.mg]) f5 fun yv H4 ⟨uy,h4,m4,up4,r4,rh4,f6⟩=>?_) pins s I
              have upB:=upA.trans up4;have hltB:=Nat.lt_of_lt_of_le hlt upB.le;have hDB:m4 h1.length=D:=by rw[upB.eq _ hlt];exact hmD
              cases e4:h4[h1.length]? with
              | none=>rw[e4] at f6;exact False.elim f6
              | some ob=>
                cases ob with
                | lst acc=>
                  rw[e4] at f6;dsimp only at f6;split at f6
                  . rename_i hacc
                    obtain⟨xs,hx,rxs⟩:=rh4.at_ _ _ e4;rw[hDB] at hx;have hM:Mut (H4 D):=by rw[hx];trivial
                    have upM:=Up.CI (K:=X.K) (m:=m4) (n:=h4.length) (o:=.lst (xs++[yv])) hM;have hl5:(h4.set h1.length (.lst (acc++[uy]))).length=h4.length:=List.length_set
                    have new:RO X.w X.K X.mg m4 (upd H4 (m4 h1.length) (.lst (xs++[yv]))) h4.length (.lst (acc++[uy])) (m4 h1.length):=⟨xs++[yv],upd_same,by
                      rw[hDB];exact a5.up upM _ _ (a5.append rxs (by simp only[a5];exact⟨_,_,rfl,r4,rfl⟩))⟩
                    have rh5:=rh4.put e4 rfl rfl new;rw[hDB] at rh5;refine⟨xs,hx,by rw[<- rxs.length,sizeLine_eq];exact hacc,h4.set h1.length (.lst (acc++[uy])),m4,by rw[hl5];exact hltB,hDB,by rw[hl5];exact(rj'.up upB).up upM,by rw[hl5];exact(rs'.up upB).up upM,rh5,?_⟩
                    exact Fin.up (h1:=h4.set h1.length (.lst (acc++[uy]))) (by rw[hl5];exact upM) f6
                  . exact False.elim f6
                | _=>rw[e4] at f6;exact False.elim f6
theorem GV {s:Shared} {H:Hp} {C:Addr} {cl:List (Str × Addr)} {fp:List Addr}:PG (X.blk s H scope (compEnvC scope cl C X.env) fp) tg (gB X scope tg):=⟨fun pins s' σ H' v u Q I r h=>(h s H C cl fp).out pins s' u I r⟩
theorem BS {s:Shared} {H:Hp} {C:Addr} {cl:List (Str × Addr)} {fp:List Addr}:PTs (X.blk s H scope (compEnvC scope cl C X.env) fp) ifs (tB X scope ifs):=⟨fun pins s' σ H' Q I h=>(h s H C cl fp).out pins s' I⟩
theorem IA {s:Shared} {H:Hp} {C:Addr} {cl:List (Str × Addr)} {fp:List Addr}:PE (X.blk s H scope (compEnvC scope cl C X.env) fp) elt (eB X scope elt):=⟨fun pins s' σ H' Q I h=>(h s H C cl fp).out pins s' I⟩
theorem Eg (G:Good X j) (ok:BlkOk X.N X.env.scope scope own) (hi:wV X tg iter fi)
    (hg:∀ Y,sU X scope j Y->SG Y tg g ns) (ht:∀ Y,sU X scope j Y->CH Y ifs t) (he:∀ Y,sU X scope j Y->SE Y elt fe)
    (hns:∀ i∈ns,i∈own.map (·.2):=by decide) (hs:∀ x,foldedSetIterable iter X.env x=pure x:=by intro _;rfl):SE X (.ListComp elt [⟨tg,iter,ifs,0⟩] scope pos) (bj fi g t fe (own.map (·.2))):=by
  intro su h σ H m rs rh Q fin;exact da (pe_lc G.calm G.nd oC ok (fun _ _ _ _ _=>GV) (fun _ _ _ _ _=>BS) (fun _ _ _ _ _=>IA) hs) (E2 G rs rh hi fin hg ht he hns)
theorem wG {i:Nat} {y:Str} {py spos:Pos} (G:Good X j) (hy:X.N[i]?=some y) (hyl:X.env.scope.names.lookup y=some .local) (hsw:swapsWith (.ListComp elt [⟨tg,iter,ifs,0⟩] scope pos) (some (.Name y py)) spos.line X.env=pure true) (ok:BlkOk X.N X.env.scope scope own) (hi:wV X tg iter fi)
    (hg:∀ Y,sU X scope j Y->SG Y tg g ns) (ht:∀ Y,sU X scope j Y->CH Y ifs t) (he:∀ Y,sU X scope j Y->SE Y elt fe)
    (hns:∀ i∈ns,i∈own.map (·.2):=by decide) (hs:∀ x,foldedSetIterable iter X.env x=pure x:=by intro _;rfl):SS X (.Assign [.Name y py] (.ListComp elt [⟨tg,iter,ifs,0⟩] scope pos) spos) (bf i (bj fi g t fe (own.map (·.2)))):=by
  intro su h σ H m rs rh D fin;refine eL (ps_setLc G.calm G.nd hy hyl hsw oC ok (fun _ _ _ _ _=>GV) (fun _ _ _ _ _=>BS) (fun _ _ _ _ _=>IA) hs) (E2 G rs rh hi ?_ hg ht he hns)
  exact(bY.bind (RV:=cW X) rs fin).imp fun x H1 ⟨u,h1,m1,up1,r1,rh1,fin1⟩=>fin1 _ m1 H1 .refl ((rs.up up1).set i r1) rh1
end
end UL

namespace UL
open PySem PySem.Spec PyProof.Rows L2
variable [bo]
abbrev GB:=List U->Hm->Option (U × Hm)
def SB (X:Cx) (f:Value) (g:GB):Prop:=∀ m H h us vs u' h' Q,a5 X.K X.mg m H h.length us vs->RH X.w X.K X.mg m H h->g us h=some (u',h')->gX X m H h (cW X) u' h' Q->∃ r,CallR X f r/\r vs H Q
def aS (g:GB) (fa:FA):FE:=fun su h=>(fa su h).bind fun us h1=>bZ (g us h1)
section
variable {X:Cx} {e:Expr} {es:List Expr} {fa:FA} {g:GB} {x:Str} {p pos:Pos} {id T:String} {j:Nat}
theorem bc (hc:SB X (.builtin id) g) (hg:Gl X x) (hm:X.mg x=none) (hv:bootBuiltins x=some (.builtin id)) (ha:SA X (e::es) fa) (hn:x≠"__name__" := by decide) (hdb:(x == ("__debug__" : Str))=false:=by decide)
    (he:starEach (e::es) X.env=(false,eval e X.env)::starEach es X.env:=by rfl) (hpl:(backTo pos (starEach es X.env)).any (·.1)=false:=by rfl):SE X (.Call (.Name x p) (e::es) [] pos) (aS g fa):=by
  intro su h σ H m rs rh Q fin;refine⟨fun pins s I=>?_⟩
  refine wpAny_Call_Name_kw (ld_blt I hg hm hv ?_ hn hdb);refine PyProof.Rows.callWith_builtin1 (thn (ha su h σ H m rs rh _ (Fin.bind (RV:=gj X) fin) pos pins s I) fun us s1 ⟨vs,H1,I1,r1,us',h1,m1,up1,rus,rh1,fin1⟩=>?_) he hpl
  obtain⟨u',h',eq,post⟩:=fin1.some;obtain⟨r,hr,q⟩:=hc m1 H1 h1 us' vs u' h' Q rus rh1 eq post;exact hr pins s1 σ H1 vs us Q I1 r1 q
theorem bJ (hc:SB X (.type T) g) (hg:Gl X x) (hm:X.mg x=none) (hv:bootBuiltins x=some (.type T)) (ha:SA X (e::es) fa) (hn:x≠"__name__" := by decide) (hdb:(x == ("__debug__" : Str))=false:=by decide)
    (he:starEach (e::es) X.env=(false,eval e X.env)::starEach es X.env:=by rfl) (hpl:(backTo pos (starEach es X.env)).any (·.1)=false:=by rfl):SE X (.Call (.Name x p) (e::es) [] pos) (aS g fa):=by
  intro su h σ H m rs rh Q fin;refine⟨fun pins s I=>?_⟩
  refine wpAny_Call_Name_kw (ld_blt I hg hm hv ?_ hn hdb);refine PyProof.Rows.callWith_type1 (thn (ha su h σ H m rs rh _ (Fin.bind (RV:=gj X) fin) pos pins s I) fun us s1 ⟨vs,H1,I1,r1,us',h1,m1,up1,rus,rh1,fin1⟩=>?_) he hpl
  obtain⟨u',h',eq,post⟩:=fin1.some;obtain⟨r,hr,q⟩:=hc m1 H1 h1 us' vs u' h' Q rus rh1 eq post;exact hr pins s1 σ H1 vs us Q I1 r1 q

theorem gI {K:PySem.W.Frag} {mg:Str->Option Value} {m:Nat->Addr} {H:Hp} {n:Nat} {u:U} {vs:List V} (r:a5 K mg m H n [u] vs):∃ v,vs=[v]/\RU K mg m H n u v:=by
  simp only[a5] at r;obtain⟨v,_,e,r,e2⟩:=r;subst e2;exact⟨v,e,r⟩
theorem uV {K:PySem.W.Frag} {mg:Str->Option Value} {m:Nat->Addr} {H:Hp} {n:Nat} {u w:U} {vs:List V} (r:a5 K mg m H n [u,w] vs):∃ v y,vs=[v,y]/\RU K mg m H n u v/\RU K mg m H n w y:=by
  simp only[a5] at r;obtain⟨v,_,e,r,y,_,e2,r2,e3⟩:=r;subst e3 e2;exact⟨v,y,e,r,r2⟩

def eA:GB:=fun us h=>match us with
  | [.str z]=>if z.length<=16777216 then some (.int z.length,h) else none
  | [u]=>(cR u h).map fun ws=>(.int ws.length,h)
  | _=>none
theorem B5:SB X (.builtin "len") eA:=by
  intro m H h us vs u' h' Q r rh e post;unfold eA at e;split at e
  . rename_i z
    split at e
    . rename_i hl
      cases e
      obtain⟨v,e1,r1⟩:=gI r;simp only[RU] at r1;subst e1 r1;exact⟨_,call_len_str,S z,rfl,by rw[S_len,c8];exact hl,by rw[S_len];exact post_int rh post⟩
    . cases e
  . rename_i u _
    obtain⟨ws,hw,e⟩:=mOsZ.mp e;cases e
    obtain⟨v,e1,r1⟩:=gI r;obtain⟨q,xs,e2,t,rxs⟩:=hJ r1 rh hw;subst e1 e2;exact⟨_,call_len_seq,q,xs,rfl,t.symm,by rw[<- rxs.length];exact post_int rh post⟩
  . cases e
def yr:GB:=fun us h=>match us with
  | [.int i]=>some (.int (if i < 0 then -i else i),h)
  | _=>none
theorem GZ:SB X (.builtin "abs") yr:=by
  intro m H h us vs u' h' Q r rh e post;unfold yr at e;split at e
  . rename_i i
    cases e
    obtain⟨v,e1,r1⟩:=gI r;simp only[RU] at r1;subst e1 r1;exact⟨_,call_abs,i,rfl,post_int rh post⟩
  . cases e
def yP:GB:=fun us h=>match us with
  | [.int i,.int j]=>some (.int (if j > i then j else i),h)
  | _=>none
theorem G0 (hc:X.calm=true):SB X (.builtin "max") yP:=by
  intro m H h us vs u' h' Q r rh e post;unfold yP at e;split at e
  . rename_i i j
    cases e
    obtain⟨v,y,e1,r1,r2⟩:=uV r;simp only[RU] at r1 r2;subst e1 r1 r2;exact⟨_,call_max2 hc,i,j,rfl,post_int rh post⟩
  . cases e
def yQ:GB:=fun us h=>match us with
  | [.int i,.int j]=>some (.int (if j < i then j else i),h)
  | _=>none
theorem G1 (hc:X.calm=true):SB X (.builtin "min") yQ:=by
  intro m H h us vs u' h' Q r rh e post;unfold yQ at e;split at e
  . rename_i i j
    cases e
    obtain⟨v,y,e1,r1,r2⟩:=uV r;simp only[RU] at r1 r2;subst e1 r1 r2;exact⟨_,call_min2 hc,i,j,rfl,post_int rh post⟩
  . cases e
def digits (i:Int):List Nat:=(Str.ofString (toString i)).cps.toList
theorem zT (i:Int):S (digits i)=Str.ofString (toString i):=by simp[S,digits]
def lN:GB:=fun us h=>match us with
  | [.int i]=>if i.natAbs.log2 < 1920 then some (.str (digits i),h) else none
  | _=>none
theorem B6:SB X (.type "str") lN:=by
  intro m H h us vs u' h' Q r rh e post;unfold lN at e;split at e
  . rename_i i
    split at e
    . rename_i hl
      cases e
      obtain⟨v,e1,r1⟩:=gI r;simp only[RU] at r1;subst e1 r1;refine⟨_,call_str_int,i,rfl,hl,?_⟩;have q:=post_str rh post;rw[zT] at q;exact q
    . cases e
  . cases e
def gG:GB:=fun us h=>match us with
  | [.int i]=>some (.int i,h)
  | [.bl b]=>some (.int (if b then 1 else 0),h)
  | [.str z]=>if z.length<=640 then(PySem.intText? (S z)).map fun n=>(.int n,h) else none
  | _=>none
theorem kP:SB X (.type "int") gG:=by
  intro m H h us vs u' h' Q r rh e post;unfold gG at e;split at e
  . rename_i i
    cases e
    obtain⟨v,e1,r1⟩:=gI r;simp only[RU] at r1;subst e1 r1;exact⟨_,call_int1,.inl ⟨i,rfl,post_int rh post⟩⟩
  . rename_i b
    cases e
    obtain⟨v,e1,r1⟩:=gI r;simp only[RU] at r1;subst e1 r1;exact⟨_,call_int1,.inr ⟨b,rfl,post_int rh post⟩⟩
  . rename_i z
    split at e
    . rename_i hl
      obtain⟨n,hn,e⟩:=mOsZ.mp e;cases e
      obtain⟨v,e1,r1⟩:=gI r;simp only[RU] at r1;subst e1 r1;exact⟨_,call_int_str,S z,n,rfl,hn,by rw[S_len];exact hl,post_int rh post⟩
    . cases e
  . cases e
def fq:GB:=fun us h=>match us with
  | [.int i,.int j]=>if 0 < j/\Builtin.divisionGoesByPylong i j=false then some (.tup [.int (i / j),.int (i % j)],h) else none
  | _=>none
theorem zp:SB X (.builtin "divmod") fq:=by
  intro m H h us vs u' h' Q r rh e post;unfold fq at e;split at e
  . rename_i i j
    split at e
    . rename_i hl
      cases e
      obtain⟨v,y,e1,r1,r2⟩:=uV r;simp only[RU] at r1 r2;subst e1 r1 r2;exact⟨_,call_divmodW,i,j,rfl,hl,iN (us:=[.int (i / j),.int (i % j)]) (by simp only[a5,RU];exact⟨_,_,rfl,rfl,_,_,rfl,rfl,rfl⟩) rh post⟩
    . cases e
  . cases e
def bH:GB:=fun us h=>match us with
  | [u]=>(cR u h).map fun ws=>(.tup ws,h)
  | _=>none
theorem eE:SB X (.type "tuple") bH:=by
  intro m H h us vs u' h' Q r rh e post;unfold bH at e;split at e
  . rename_i u
    obtain⟨ws,hw,e⟩:=mOsZ.mp e;cases e
    obtain⟨v,e1,r1⟩:=gI r;obtain⟨q,xs,e2,t,rxs⟩:=hJ r1 rh hw;subst e1 e2;rcases t with t | t
    . exact⟨_,call_tuple_of,q,xs,rfl,.inr ⟨t,post (.ref q) m H .refl (by simp only[cW,RU];exact⟨q,xs,rfl,t,rxs⟩) rh⟩⟩
    . exact⟨_,call_tuple_of,q,xs,rfl,.inl ⟨t,iN rxs rh post⟩⟩
  . cases e
def xC:GB:=fun us h=>match us with
  | [u]=>(cR u h).map fun ws=>(.ref h.length,h++[.lst ws])
  | _=>none
def k9:List U->Option (List Bool)
  | []=>some []
  | .bl b::us=>(k9 us).map (b::·)
  | _=>none
theorem kF {K:PySem.W.Frag} {mg:Str->Option Value} {m:Nat->Addr} {H:Hp} {n:Nat}:∀ {us:List U} {vs:List V} {bs:List Bool},a5 K mg m H n us vs->k9 us=some bs->vs=bs.map V.bl
  | [],_,_,r,e=>by simp only[a5] at r;cases e;exact r
  | .bl b::us,_,_,r,e=>by
    simp only[a5,RU] at r;obtain⟨v,t,e1,e2,r⟩:=r;simp only[k9] at e;obtain⟨bs,hb,e⟩:=mOsZ.mp e;subst e e1 e2;rw[kF r hb];rfl
  | .non::_,_,_,_,e=>by cases e
  | .int _::_,_,_,_,e=>by cases e
  | .str _::_,_,_,_,e=>by cases e
  | .ty _::_,_,_,_,e=>by cases e
  | .glo _::_,_,_,_,e=>by cases e
  | .adr _::_,_,_,_,e=>by cases e
  | .ref _::_,_,_,_,e=>by cases e
  | .tup _::_,_,_,_,e=>by cases e
def nZ (u:U) (h:Hm):Option (List U):=match u with
  | .ref i=>match h[i]? with
    | some (.lst us)=>some us
    | some (.fro us)=>some us
    | _=>none
  | _=>none
theorem uA {W0:World} {K:PySem.W.Frag} {mg:Str->Option Value} {m:Nat->Addr} {H:Hp} {h:Hm} {u:U} {x:V} {us:List U} (r:RU K mg m H h.length u x) (rh:RH W0 K mg m H h) (e:nZ u h=some us) :
    ∃ p xs,x=.ref p/\SqL K H p xs/\a5 K mg m H h.length us xs:=by
  unfold nZ at e;split at e
  . rename_i i
    simp only[RU] at r;split at e
    . rename_i ws hq
      cases e
      obtain⟨xs,e2,rs⟩:=rh.at_ i _ hq;exact⟨_,xs,r.2,SqL.of e2,rs⟩
    . rename_i ws hq
      cases e
      obtain⟨xs,e2,rs⟩:=rh.at_ i _ hq;exact⟨_,xs,r.2,e2.sq,rs⟩
    . cases e
  . cases e
def allB:GB:=fun us h=>match us with
  | [u]=>match nZ u h with
    | some ws=>(k9 ws).map fun bs=>(.bl (bs.all fun b=>b),h)
    | none=>none
  | _=>none
theorem B3 (hc:X.calm=true):SB X (.builtin "all") allB:=by
  intro m H h us vs u' h' Q r rh e post;unfold allB at e;split at e
  . rename_i u
    split at e
    . rename_i ws hw
      obtain⟨bs,hb,e⟩:=mOsZ.mp e;cases e
      obtain⟨v,e1,r1⟩:=gI r;obtain⟨q,xs,e2,t,rxs⟩:=uA r1 rh hw;subst e1 e2;exact⟨_,cr_all hc,q,bs,rfl,by rw[<- kF rxs hb];exact t,cj rh post⟩
    . cases e
  . cases e
def anyB:GB:=fun us h=>match us with
  | [u]=>match nZ u h with
    | some ws=>(k9 ws).map fun bs=>(.bl (bs.any fun b=>b),h)
    | none=>none
  | _=>none
theorem B4 (hc:X.calm=true):SB X (.builtin "any") anyB:=by
  intro m H h us vs u' h' Q r rh e post;unfold anyB at e;split at e
  . rename_i u
    split at e
    . rename_i ws hw
      obtain⟨bs,hb,e⟩:=mOsZ.mp e;cases e
      obtain⟨v,e1,r1⟩:=gI r;obtain⟨q,xs,e2,t,rxs⟩:=uA r1 rh hw;subst e1 e2;exact⟨_,cr_any hc,q,bs,rfl,by rw[<- kF rxs hb];exact t,cj rh post⟩
    . cases e
  . cases e
def lG:GB:=fun us h=>match us with
  | [u]=>match (match u with | .tup _=>true | .ref _=>true | _=>false),dat 12 h u with
    | true,some d=>if d.showable && !d.hasDict && decide (d.depth<=40) && decide (d.shown.length<=16777216) then some (.str d.shown.cps.toList,h) else none
    | _,_=>none
  | _=>none
theorem kz (x:Str):S x.cps.toList=x:=by simp[S]
theorem xW (G:GoodW X):SB X (.builtin "repr") lG:=by
  intro m H h us vs u' h' Q r rh e post;unfold lG at e;split at e
  . rename_i u
    split at e
    . rename_i d hu hd
      split at e
      . rename_i hs
        cases e
        simp only[Bool.and_eq_true,decide_eq_true_eq,Bool.not_eq_true'] at hs;obtain⟨⟨⟨s1,s2⟩,s3⟩,s4⟩:=hs;obtain⟨v,e1,r1⟩:=gI r;subst e1;have hdp:=jq rh 12 u v d r1 hd
        have hv:∃ a,v=.ref a:=by
          cases u with
          | tup ws=>simp only[RU] at r1;obtain⟨a,xs,e,_⟩:=r1;exact⟨a,e⟩
          | ref i=>simp only[RU] at r1;exact⟨_,r1.2⟩
          | _=>cases hu
        obtain⟨a,rfl⟩:=hv;refine⟨fun vs H Q=>vs=[.ref a]/\Dp X.K H (.ref a) d/\Q (.str d.shown) H,?_,rfl,hdp,?_⟩
        . intro pins s σ H xs us Q I r h
          obtain⟨e,hdp,q⟩:=h;subst e;rw[Vals.ref1 r];obtain⟨as,rd⟩:=Dp.reads I d (.ref a) (.ref a) hdp rfl;refine repr_of_reads' rd s1 (PyData.noDict_hsm s2) G.gd (by have:=G.hu;omega) (fun _ _ e=>e) (fun h' u tk hk=>⟨.str d.shown,H,I.kept (t':=tk) hk,⟨u,rfl⟩,q⟩) (by rw[c8];exact s4)
        . have q:=post_str rh post
          rw[kz] at q;exact q
      . cases e
    . cases e
  . cases e
end
end UL

namespace UL
open PySem PySem.Spec PyProof.Rows L2
variable [bo]
inductive MT where | str | list | dict
def MT.nm:MT->String
  | .str => "str"
  | .list => "list"
  | .dict => "dict"
def Fq (T:MT) (u:U) (h:Hm):Bool:=match T,u with
  | .str,.str _=>true
  | .list,.ref i=>match h[i]? with
    | some (.lst _)=>true
    | some (.fro _)=>true
    | _=>false
  | .dict,.ref i=>match h[i]? with
    | some (.cq _)=>true
    | _=>false
  | _,_=>false
theorem Hs {W0:World} {K:PySem.W.Frag} {mg:Str->Option Value} {m:Nat->Addr} {H:Hp} {h:Hm} {u:U} {x:V} {T:MT} (r:RU K mg m H h.length u x) (rh:RH W0 K mg m H h) (e:Fq T u h=true):tyV K T.nm x H:=by
  unfold Fq at e;split at e
  . simp only[RU] at r;subst r;exact rfl
  . rename_i i
    simp only[RU] at r;split at e
    . rename_i us q
      obtain⟨xs,ex,_⟩:=rh.at_ i _ q;rw[r.2];exact .inl ⟨rfl,xs,SqL.of ex⟩
    . rename_i us q
      obtain⟨xs,ex,_⟩:=rh.at_ i _ q;rw[r.2];exact .inl ⟨rfl,xs,ex.sq⟩
    . cases e
  . rename_i i
    simp only[RU] at r;split at e
    . rename_i us q
      obtain⟨ks,ex,_⟩:=rh.at_ i _ q;rw[r.2];exact .inr (.inr (.inl ⟨rfl,.inl ⟨ks,ex⟩⟩))
    . cases e
  . cases e
abbrev GM:=U->List U->Hm->Option (U × Hm)
def SM (X:Cx) (id:String) (g:GM):Prop:=∀ m H h u us x vs u' h' Q,RU X.K X.mg m H h.length u x->a5 X.K X.mg m H h.length us vs->RH X.w X.K X.mg m H h->g u us h=some (u',h')->gX X m H h (cW X) u' h' Q->∃ r,MtR X id r/\r x vs H Q
theorem Io {X:Cx} {id:String}:MtR X id (fun x xs H Q=>∃ r,MtR X id r/\r x xs H Q):=fun pins s σ H x xs v us Q I rx rv ⟨r,hr,q⟩=>hr pins s σ H x xs v us Q I rx rv q
def dy (T:MT) (g:GM) (fo:FE) (fa:FA):FE:=fun su h=>(fo su h).bind fun u h1=>if Fq T u h1=true then(fa su h1).bind fun us h2=>bZ (g u us h2) else .bad
section
variable {X:Cx} {o e:Expr} {es:List Expr} {fo fe:FE} {fa:FA} {g:GM} {name:Str} {apos cpos pos:Pos} {T:MT} {id:String} {j:Nat}
theorem A8 {su:En} {h:Hm} {σ:Sg} {H:Hp} {m:Nat->Addr} {Q:VK} {es:List Expr} (hm:SM X id g) (ho:SE X o fo) (ha:SA X es fa) (rs:cT X.K X.mg m H h.length su σ) (rh:RH X.w X.K X.mg m H h) (fin:Fin X σ m H h (cW X) (dy T g fo fa su h) Q) :
    lJ X o σ H fun x H1=>tyV X.K T.nm x H1/\B7 X es σ H1 fun xs H2=>∃ r,MtR X id r/\r x xs H2 Q:=by
  refine ho su h σ H m rs rh _ ((Fin.bind (RV:=cW X) fin).imp fun x H1 ⟨u,h1,m1,up1,r1,rh1,fin1⟩=>?_)
  split at fin1
  . rename_i ht
    refine⟨Hs r1 rh1 ht,ha su h1 σ H1 m1 (rs.up up1) rh1 _ ((Fin.bind (RV:=gj X) fin1).imp fun xs H2 ⟨us,h2,m2,up2,r2,rh2,fin2⟩=>?_)⟩
    obtain⟨u',h',eq,post⟩:=fin2.some;exact hm m2 H2 h2 u us x xs u' h' Q (RU.up up2 _ _ r1) r2 rh2 eq post
  . exact False.elim fin1
theorem fP (hm:SM X id g) (ho:SE X o fo) (ha:SA X (e::es) fa) (pa:PlainAttrs T.nm) (slot:Slot T.nm name id) (hty:typeOf (.builtin id)=pure (.type "method_descriptor"))
    (hbase:attributeBase o name X.env (eval o X.env)=eval o X.env:=by rfl)
    (hfew:((backTo cpos (starEach (e::es) X.env)).all (fun x=>!x.1) && (backToKw cpos (keywordEach [] X.env)).all (fun x=>x.1.isSome)
      && decide ((e::es).length + ([]:List Keyword).length + (if ([]:List Keyword).isEmpty then 0 else 1) < 30))=true:=by rfl)
    (hline:(apos.endLine == cpos.line)=true:=by rfl) (hs:starEach (e::es) X.env=(false,eval e X.env)::starEach es X.env:=by rfl) (hplain:(backTo cpos (starEach es X.env)).any (·.1)=false:=by rfl) :
    SE X (.Call (.Attribute o name apos) (e::es) [] cpos) (dy T g fo fa):=by
  intro su h σ H m rs rh Q fin;exact da (pe_bm pa slot hty Io bO i5 hbase hfew hline hs hplain) (A8 hm ho ha rs rh fin)
theorem eI {h:Hm} {i:Nat} {o:O}:(h.set i o).length=h.length:=List.length_set
theorem uP {m:Nat->Addr} {H:Hp} {h:Hm} {i:Nat} {us:List U} {xs:List V} {w:U} {y:V} {Q:VK} {us0:List U} {xs0:List V} (hq:h[i]?=some (.lst us0)) (hx:H (m i)=some (.lst xs0)) (rx:a5 X.K X.mg m H h.length us xs) (rh:RH X.w X.K X.mg m H h)
    (ry:RU X.K X.mg m H h.length w y) (post:gX X m H h (cW X) w (h.set i (.lst us)) Q):Q y (upd H (m i) (.lst xs)):=by
  have hM:Mut (H (m i)):=by rw[hx];trivial
  have upM:=Up.CI (K:=X.K) (m:=m) (n:=h.length) (o:=.lst xs) hM;exact post y m _ (by rw[eI];exact upM) (by rw[eI];exact RU.up upM _ _ ry) (rh.put hq rfl rfl ⟨xs,upd_same,a5.up upM _ _ rx⟩)
def iS:GM:=fun u us h=>match u,us with
  | .ref i,[y]=>match h[i]? with
    | some (.lst xs)=>if xs.length < 16777216 then some (.non,h.set i (.lst (xs++[y]))) else none
    | _=>none
  | _,_=>none
theorem zu:SM X "list.append" iS:=by
  intro m H h u us x vs u' h' Q r rs rh e post;unfold iS at e;split at e
  . rename_i i y
    simp only[RU] at r;obtain⟨v,e1,ry⟩:=gI rs;split at e
    . rename_i xs hq
      split at e
      . rename_i hl
        cases e
        obtain⟨zs,hz,rz⟩:=rh.at_ i _ hq;subst e1;refine⟨_,mt_append,m i,zs,v,r.2,rfl,hz,by rw[<- rz.length,c8];exact hl,?_⟩
        exact uP hq hz (a5.append rz (by simp only[a5];exact⟨_,_,rfl,ry,rfl⟩)) rh (by simp only[RU]) post
      . cases e
    . cases e
  . cases e
def hZ:GM:=fun u us h=>match u,us with
  | .ref i,[.ref j]=>match h[i]?,h[j]? with
    | some (.lst xs),some (.lst ys)=>if xs.length + ys.length<=16777216 then some (.non,h.set i (.lst (xs++ys))) else none
    | _,_=>none
  | _,_=>none
theorem qN:SM X "list.extend" hZ:=by
  intro m H h u us x vs u' h' Q r rs rh e post;unfold hZ at e;split at e
  . rename_i i j
    simp only[RU] at r;obtain⟨v,e1,ry⟩:=gI rs;simp only[RU] at ry;split at e
    . rename_i xs ys hq hq'
      split at e
      . rename_i hl
        cases e
        obtain⟨zs,hz,rz⟩:=rh.at_ i _ hq;obtain⟨zs',hz',rz'⟩:=rh.at_ j _ hq';subst e1;refine⟨_,mt_extend,m i,m j,zs,zs',r.2,by rw[ry.2],hz,hz',by rw[<- rz.length,<- rz'.length,c8];exact hl,?_⟩
        exact uP hq hz (a5.append rz rz') rh (by simp only[RU]) post
      . cases e
    . cases e
  . cases e
theorem a5.dropLast {K:PySem.W.Frag} {mg:Str->Option Value} {m:Nat->Addr} {H:Hp} {n:Nat} {us:List U} {vs:List V} (r:a5 K mg m H n us vs):a5 K mg m H n us.dropLast vs.dropLast:=by
  rw[List.dropLast_eq_take,List.dropLast_eq_take,r.length];exact a5.take _ r
def codes (x:Str):U:=.str x.cps.toList
theorem a5.strs {K:PySem.W.Frag} {mg:Str->Option Value} {m:Nat->Addr} {H:Hp} {n:Nat}:∀ (ys:List Str),a5 K mg m H n (ys.map codes) (ys.map V.str)
  | []=>by simp only[List.map_nil,a5]
  | y::ys=>by
    simp only[List.map_cons,a5];exact⟨_,_,rfl,by simp only[codes,RU],a5.strs ys⟩
def splitM:GM:=fun u us h=>match u,us with
  | .str a,[.str b]=>if b.length≠0/\a.length + 2<=16777216 then some (.ref h.length,h++[.lst ((Txt.split (S a) (S b)).map codes)]) else none
  | _,_=>none
theorem Cn:SM X "str.split" splitM:=by
  intro m H h u us x vs u' h' Q r rs rh e post;unfold splitM at e;split at e
  . rename_i a b
    simp only[RU] at r;obtain⟨v,e1,ry⟩:=gI rs;simp only[RU] at ry;split at e
    . rename_i hl
      cases e
      subst e1 ry r;exact⟨_,mt_split,S a,S b,rfl,rfl,by rw[S_len];exact beq_eq_false_iff_ne.mpr hl.1,by rw[S_len,c8];exact hl.2,iM (a5.strs _) rh post⟩
    . cases e
  . cases e
def strsOf:List U->Option (List (List Nat))
  | []=>some []
  | .str z::us=>(strsOf us).map (z::·)
  | _=>none
theorem lO {K:PySem.W.Frag} {mg:Str->Option Value} {m:Nat->Addr} {H:Hp} {n:Nat}:∀ {us:List U} {vs:List V} {zs:List (List Nat)},a5 K mg m H n us vs->strsOf us=some zs->vs=(zs.map S).map V.str
  | [],_,_,r,e=>by simp only[a5] at r;cases e;exact r
  | .str z::us,_,_,r,e=>by
    simp only[a5,RU] at r;obtain⟨v,t,e1,e2,r⟩:=r;simp only[strsOf] at e;obtain⟨bs,hb,e⟩:=mOsZ.mp e;subst e e1 e2;rw[lO r hb];rfl
  | .non::_,_,_,_,e=>by cases e
  | .int _::_,_,_,_,e=>by cases e
  | .bl _::_,_,_,_,e=>by cases e
  | .ty _::_,_,_,_,e=>by cases e
  | .glo _::_,_,_,_,e=>by cases e
  | .adr _::_,_,_,_,e=>by cases e
  | .ref _::_,_,_,_,e=>by cases e
  | .tup _::_,_,_,_,e=>by cases e
def joinL (a:List Nat):List (List Nat)->List Nat
  | []=>[]
  | [z]=>z
  | z::w::zs=>z++a++joinL a (w::zs)
theorem nH (a:List Nat):∀ (zs:List (List Nat)) (acc:List Nat),((zs.map S).foldl (fun acc p=>acc++(S a).cps++p.cps) acc.toArray)=(acc++(zs.map fun z=>a++z).flatten).toArray
  | [],acc=>by simp
  | z::zs,acc=>by
    rw[List.map_cons,List.foldl_cons,show acc.toArray++(S a).cps++(S z).cps=(acc++(a++z)).toArray by simp[S],nH a zs]
    simp
theorem um (a:List Nat):∀ (z:List Nat) (zs:List (List Nat)),joinL a (z::zs)=z++(zs.map fun z=>a++z).flatten
  | z,[]=>by simp[joinL]
  | z,w::zs=>by rw[joinL,um a w zs];simp
theorem join_S (a:List Nat) (zs:List (List Nat)):Txt.join (S a) (zs.map S)=S (joinL a zs):=by
  unfold Txt.join Builtin.Str.glued;cases zs with
  | nil=>simp[joinL,S,Str.empty]
  | cons z zs=>
    rw[um,show((z::zs).map S).drop 1=zs.map S by rfl,show((z::zs).map S).headD Str.empty=S z by rfl,show(S z).cps=z.toArray by rfl,nH]
def joinM:GM:=fun u us h=>match u,us with
  | .str a,[w]=>match cR w h with
    | some ws=>match strsOf ws with
      | some zs=>if (zs.map List.length).sum + zs.length * a.length<=16777216 then some (.str (joinL a zs),h) else none
      | none=>none
    | none=>none
  | _,_=>none
theorem j9:SM X "str.join" joinM:=by
  intro m H h u us x vs u' h' Q r rs rh e post;unfold joinM at e;split at e
  . rename_i a w
    simp only[RU] at r;obtain⟨v,e1,ry⟩:=gI rs;split at e
    . rename_i ws hw
      split at e
      . rename_i zs hz
        split at e
        . rename_i hl
          cases e
          obtain⟨p,xs,e2,t,rxs⟩:=hJ ry rh hw;have e3:=lO rxs hz;subst e1 r e2;refine⟨_,mt_join,S a,p,zs.map S,rfl,rfl,by rw[<- e3];exact t.symm,?_,by rw[join_S];exact post_str rh post⟩
          rw[List.map_map,S_len,List.length_map];have:((fun x=>Str.length x) ∘ S)=(List.length:List Nat->Nat):=by funext z;exact S_len z
          rw[show((fun x:Str=>x.length) ∘ S)=(List.length:List Nat->Nat) from this]
          exact hl
        . cases e
      . cases e
    . cases e
  . cases e
def eJ:GM:=fun u us h=>match u,us with
  | .str a,[.str b]=>some (.int (Txt.count (S a) (S b)),h)
  | _,_=>none
theorem qO:SM X "str.count" eJ:=by
  intro m H h u us x vs u' h' Q r rs rh e post;unfold eJ at e;split at e
  . rename_i a b
    simp only[RU] at r;obtain⟨v,e1,ry⟩:=gI rs;simp only[RU] at ry;cases e
    subst e1 ry r;exact⟨_,mt_count,S a,S b,rfl,rfl,post_int rh post⟩
  . cases e
end
end UL

namespace UL
open PySem PySem.Spec PyProof.Rows L2
variable [bo]
def la:List (U × U)->Key->Option U
  | [],_=>none
  | (k,u)::r,q=>if eS k=some q then some u else la r q
def lb (kvs:List (U × U)) (k u:U):List (U × U):=
  if (kvs.any fun kv=>decide (eS kv.1=eS k))=true then kvs.map (fun kv=>if eS kv.1=eS k then(kv.1,u) else kv) else kvs++[(k,u)]
section
variable {K:PySem.W.Frag} {mg:Str->Option Value} {m:Nat->Addr} {H:Hp} {n:Nat}
theorem mQ {k:U} {q:Key} {v:V} (e:eS k=some q) (r:RU K mg m H n k v):v=kV q:=by
  cases k with
  | int i=>cases e;simp only[RU] at r;rw[r];rfl
  | str x=>cases e;simp only[RU] at r;rw[r];rfl
  | _=>cases e
theorem fU.length:∀ {kvs:List (U × U)} {ks:List (Key × V)},fU K mg m H n kvs ks->kvs.length=ks.length
  | [],_,r=>by
    have e:_=[]:=r;rw[e];rfl
  | (k,u)::kvs,_,r=>by
    obtain⟨q,v,r',e,hk,h1,h2⟩:=r;subst e;simp[fU.length h2]
theorem fU.get:∀ {kvs:List (U × U)} {ks:List (Key × V)} {q:Key},fU K mg m H n kvs ks->(la kvs q=none->valV ks q=none)/\∀ u,la kvs q=some u->∃ v,valV ks q=some v/\RU K mg m H n u v
  | [],_,q,r=>by
    have e:_=[]:=r;subst e;exact⟨fun _=>rfl,fun u z=>nomatch z⟩
  | (k,w)::kvs,_,q,r=>by
    obtain⟨q',v,r',e,hk,h1,h2⟩:=r;subst e;unfold la
    by_cases h:q'=q
    . subst h
      rw[if_pos hk];refine⟨fun z=>(nomatch z),fun u z=>?_⟩
      cases z
      exact⟨v,valV_pos rfl,h1⟩
    . rw[if_neg fun z=>h (Option.some.inj (hk.symm.trans z))]
      obtain⟨a,b⟩:=fU.get (q:=q) h2;rw[valV_neg (p:=(q',v)) (r:=r') h];exact⟨a,b⟩
theorem fU.any:∀ {kvs:List (U × U)} {ks:List (Key × V)} {k:U} {q:Key},fU K mg m H n kvs ks->eS k=some q->(kvs.any fun kv=>decide (eS kv.1=eS k))=(ks.any fun kv=>decide (kv.1=q))
  | [],_,_,_,r,_=>by
    have e:_=[]:=r;subst e;rfl
  | (k',w)::kvs,_,k,q,r,hq=>by
    obtain⟨q',v,r',e,hk,h1,h2⟩:=r;subst e;rw[List.any_cons,List.any_cons,fU.any h2 hq]
    congr 1
    show decide (eS k'=eS k)=decide (q'=q);rw[hk,hq]
    by_cases h:q'=q
    . subst h;simp
    . rw[decide_eq_false h,decide_eq_false fun z=>h (Option.some.inj z)]
theorem fU.map:∀ {kvs:List (U × U)} {ks:List (Key × V)} {k:U} {q:Key} {u:U} {v:V},fU K mg m H n kvs ks->eS k=some q->RU K mg m H n u v ->
    fU K mg m H n (kvs.map fun kv=>if eS kv.1=eS k then(kv.1,u) else kv) (ks.map fun kv=>if kv.1=q then(kv.1,v) else kv)
  | [],_,_,_,_,_,r,_,_=>by
    have e:_=[]:=r;subst e;exact rfl
  | (k',w)::kvs,_,k,q,u,v,r,hq,ru=>by
    obtain⟨q',v',r',e,hk,h1,h2⟩:=r;subst e;rw[List.map_cons,List.map_cons];have ih:=fU.map h2 hq ru;show fU K mg m H n ((if eS k'=eS k then(k',u) else(k',w))::_) ((if q'=q then(q',v) else(q',v'))::_)
    by_cases h:q'=q
    . subst h
      rw[if_pos (hk.trans hq.symm),if_pos rfl];exact⟨q',v,_,rfl,hk,ru,ih⟩
    . rw[if_neg fun z=>h (Option.some.inj ((hk.symm.trans z).trans hq)),if_neg h]
      exact⟨q',v',_,rfl,hk,h1,ih⟩
theorem fU.snoc:∀ {kvs:List (U × U)} {ks:List (Key × V)} {k:U} {q:Key} {u:U} {v:V},fU K mg m H n kvs ks->eS k=some q->RU K mg m H n u v->fU K mg m H n (kvs++[(k,u)]) (ks++[(q,v)])
  | [],_,_,q,_,v,r,hq,ru=>by
    have e:_=[]:=r;subst e;exact⟨q,v,[],rfl,hq,ru,rfl⟩
  | (k',w)::kvs,_,k,q,u,v,r,hq,ru=>by
    obtain⟨q',v',r',e,hk,h1,h2⟩:=r;subst e;exact⟨q',v',_,rfl,hk,h1,fU.snoc h2 hq ru⟩
theorem fU.put {kvs:List (U × U)} {ks:List (Key × V)} {k:U} {q:Key} {u:U} {v:V} (r:fU K mg m H n kvs ks) (hq:eS k=some q) (ru:RU K mg m H n u v):fU K mg m H n (lb kvs k u) (putK ks q v):=by
  unfold lb putK;rw[r.any hq];split
  . exact r.map hq ru
  . exact r.snoc hq ru
end
section
variable {X:Cx} {a b e o i:Expr} {fa fb fe fo fi:FE} {pos p2:Pos} {j:Nat}
theorem Dt (hu:X.A.units + 1 < cLine):IxR X (fun x y H Q=>∃ a v,x=.ref a/\DGet H a y (some v)/\Q v H):=by
  intro value slice pins s σ H x y v u Q I rx ry h hs;obtain⟨a,w,rfl,g,q⟩:=h;cases rx
  exact tail_any (dict_typeIs I g) PySem.F.slot_dict_getitem.lookup (d_getItem hu I g ry fun w' s3 I3 rw'=>⟨w,H,I3,rw',q⟩) hs
def vF:G2:=fun u w h=>match u with
  | .ref i=>match h[i]? with
    | some (.cq kvs)=>(eS w).bind fun q=>(la kvs q).map fun v=>(v,h)
    | _=>yH u w h
  | _=>yH u w h
theorem Ck (G:GoodW X):SI X vF:=by
  intro m H h u w x y u' h' Q r1 r2 rh e post;unfold vF at e;split at e
  . rename_i i
    split at e
    . rename_i kvs hk
      obtain⟨q,hq,e⟩:=Option.bind_eq_some_iff.mp e;obtain⟨v,hv,e⟩:=mOsZ.mp e;cases e
      simp only[RU] at r1;obtain⟨ks,ek,rk⟩:=rh.at_ i _ hk;obtain⟨v',hv',rv⟩:=(rk.get (q:=q)).2 _ hv;have ey:=mQ hq r2;subst ey;exact⟨_,Dt G.Ig,m i,v',r1.2,.inl ⟨ks,q,.inl ek,rfl,hv'.symm⟩,oJ rv rh post⟩
    . exact Fh m H h _ w x y u' h' Q r1 r2 rh e post
  . exact Fh m H h u w x y u' h' Q r1 r2 rh e post
def iW (neg:Bool):G2:=fun u w h=>match w with
  | .ref i=>match h[i]? with
    | some (.cq kvs)=>(eS u).map fun q=>(.bl (if neg then !(la kvs q).isSome else(la kvs q).isSome),h)
    | _=>yE neg u w h
  | _=>yE neg u w h
theorem DV (hu:X.A.units + 1 < cLine):OpR X (compareOp .In) (fun x y H Q=>∃ a o,y=.ref a/\DGet H a x o/\Q (.bl o.isSome) H):=by
  intro pins s σ H x y v u Q I rx ry h;obtain⟨a,o,rfl,g,q⟩:=h;cases ry
  exact d_in hu I g rx fun s3 I3=>⟨.bl o.isSome,H,I3,rfl,q⟩
theorem wu (hu:X.A.units + 1 < cLine):OpR X (compareOp .NotIn) (fun x y H Q=>∃ a o,y=.ref a/\DGet H a x o/\Q (.bl (!o.isSome)) H):=by
  intro pins s σ H x y v u Q I rx ry h;obtain⟨a,o,rfl,g,q⟩:=h;cases ry
  exact d_notIn hu I g rx fun s3 I3=>⟨.bl (!o.isSome),H,I3,rfl,q⟩
theorem tN {K:PySem.W.Frag} {mg:Str->Option Value} {m:Nat->Addr} {H:Hp} {n:Nat} {kvs:List (U × U)} {ks:List (Key × V)} {q:Key} (rk:fU K mg m H n kvs ks):(la kvs q).isSome=(valV ks q).isSome:=by
  cases e:la kvs q with
  | none=>rw[(rk.get (q:=q)).1 e];rfl
  | some u=>obtain⟨v,hv,_⟩:=(rk.get (q:=q)).2 u e;rw[hv];rfl
theorem oX (neg:Bool) {f:Value->Value->Sem Value} (o1:SO X f (yE neg)) (o2:OpR X f (fun x y H Q=>∃ a o,y=.ref a/\DGet H a x o/\Q (.bl (if neg then !o.isSome else o.isSome)) H)):SO X f (iW neg):=by
  intro m H h u w x y u' h' Q r1 r2 rh e post;unfold iW at e;split at e
  . rename_i i
    split at e
    . rename_i kvs hk
      obtain⟨q,hq,e⟩:=mOsZ.mp e;cases e
      simp only[RU] at r2;obtain⟨ks,ek,rk⟩:=rh.at_ i _ hk;have ey:=mQ hq r1;subst ey;refine⟨_,o2,m i,valV ks q,r2.2,.inl ⟨ks,q,.inl ek,rfl,rfl⟩,?_⟩;rw[<- tN rk];exact cj rh post
    . exact o1 m H h u _ x y u' h' Q r1 r2 rh e post
  . exact o1 m H h u w x y u' h' Q r1 r2 rh e post
theorem Hf (G:GoodW X):SO X (compareOp .In) (iW false):=oX false I0 (DV G.Ig)
theorem zx (G:GoodW X):SO X (compareOp .NotIn) (iW true):=oX true Cp (wu G.Ig)

def eT:List (FE × FE)->En->Hm->Rs (List (U × U))
  | [],_,h=>.ok [] h
  | (fk,fv)::ps,su,h=>(fk su h).bind fun k h1=>(fv su h1).bind fun v h2=>(eT ps su h2).bind fun r h3=>.ok ((k,v)::r) h3
def JD (X:Cx):Rel (List (U × U)) (List (V × V)):=fun m H n us vs=>a5 X.K X.mg m H n (us.map (·.1)) (vs.map (·.1))/\a5 X.K X.mg m H n (us.map (·.2)) (vs.map (·.2))
def Jn (X:Cx) (pos:Pos) (keys:List (Option Expr)) (values:List Expr) (ps:List (FE × FE)):Prop:=∃ trs,PPs X pos keys values trs/\∀ su h σ H m,cT X.K X.mg m H h.length su σ->RH X.w X.K X.mg m H h->∀ Q,Fin X σ m H h (JD X) (eT ps su h) Q->tPairs trs σ H Q
theorem yf:Jn X pos [] [] []:=⟨[],pps_nil,fun su h σ H m rs rh Q fin=>fin [] m H .refl ⟨rfl,rfl⟩ rh⟩
theorem iO {k v:Expr} {ks:List (Option Expr)} {vs:List Expr} {fk fv:FE} {ps:List (FE × FE)} (hk:SE X k fk) (hv:SE X v fv) (hr:Jn X pos ks vs ps):Jn X pos (some k::ks) (v::vs) ((fk,fv)::ps):=by
  obtain⟨trs,hp,ht⟩:=hr;refine⟨_,pps_cons bO bO hp,fun su h σ H m rs rh Q fin=>?_⟩
  refine hk su h σ H m rs rh _ ((Fin.bind (RV:=cW X) fin).imp fun x H1 ⟨u,h1,m1,up1,r1,rh1,fin1⟩=>?_)
  refine hv su h1 σ H1 m1 (rs.up up1) rh1 _ ((Fin.bind (RV:=cW X) fin1).imp fun y H2 ⟨w,h2,m2,up2,r2,rh2,fin2⟩=>?_)
  refine ht su h2 σ H2 m2 ((rs.up up1).up up2) rh2 _ ((Fin.bind (RV:=JD X) fin2).imp fun xs H3 ⟨us,h3,m3,up3,r3,rh3,fin3⟩=>?_)
  refine fin3 ((x,y)::xs) m3 H3 .refl ⟨?_,?_⟩ rh3
  . simp only[List.map_cons,a5]
    exact⟨x,_,rfl,RU.up up3 _ _ (RU.up up2 _ _ r1),r3.1⟩
  . simp only[List.map_cons,a5]
    exact⟨y,_,rfl,RU.up up3 _ _ r2,r3.2⟩
def jT:List (U × U)->Bool
  | []=>true
  | (k,_)::r=>(eS k).isSome && jT r
def jb (ps:List (FE × FE)):FE:=fun su h=>(eT ps su (h++[.cq []])).bind fun kvs h2=>match h2[h.length]? with
  | some (.cq [])=>if jT kvs && decide (kvs.length<=15) then .ok (.ref h.length) (h2.set h.length (.cq (kvs.foldl (fun acc kv=>lb acc kv.1 kv.2) []))) else .bad
  | _=>.bad
theorem xy {K:PySem.W.Frag} {mg:Str->Option Value} {m:Nat->Addr} {H:Hp} {n:Nat}:∀ {us:List (U × U)} {vs:List (V × V)},a5 K mg m H n (us.map (·.1)) (vs.map (·.1))->a5 K mg m H n (us.map (·.2)) (vs.map (·.2))->jT us=true ->
    ∃ kvs:List (Key × V),vs=kvs.map (fun kv=>(kV kv.1,kv.2))/\fU K mg m H n us kvs
  | [],vs,r1,_,_=>by
    simp only[List.map_nil,a5] at r1;have e:vs=[]:=List.map_eq_nil_iff.mp r1;subst e;exact⟨[],rfl,rfl⟩
  | (k,u)::us,vs,r1,r2,h=>by
    simp only[List.map_cons,a5] at r1 r2;obtain⟨v,r,e1,k1,k2⟩:=r1;obtain⟨v',r',e2,k3,k4⟩:=r2;cases vs with
    | nil=>cases e1
    | cons p vs=>
      obtain⟨x,y⟩:=p;rw[List.map_cons] at e1 e2;injection e1 with a1 a2
      injection e2 with b1 b2
      subst a1 a2 b1 b2;simp only[jT,Bool.and_eq_true] at h;obtain⟨q,hq⟩:=Option.isSome_iff_exists.mp h.1;obtain⟨kvs,e3,rk⟩:=xy k2 k4 h.2;refine⟨(q,y)::kvs,?_,q,y,kvs,rfl,hq,k3,rk⟩;rw[List.map_cons,<- e3,show x=kV q from mQ hq k1]
theorem fU.merge {K:PySem.W.Frag} {mg:Str->Option Value} {m:Nat->Addr} {H:Hp} {n:Nat}:∀ {us:List (U × U)} {ks:List (Key × V)} {acc:List (U × U)} {ak:List (Key × V)},fU K mg m H n us ks->fU K mg m H n acc ak->fU K mg m H n (us.foldl (fun acc kv=>lb acc kv.1 kv.2) acc) (mergeK ak ks)
  | [],_,_,_,r,ra=>by
    have e:_=[]:=r;subst e;exact ra
  | (k,u)::us,_,acc,ak,r,ra=>by
    obtain⟨q,v,r',e,hk,h1,h2⟩:=r;subst e;rw[List.foldl_cons];show fU K mg m H n _ (mergeK (putK ak q v) r');exact fU.merge h2 (ra.put hk h1)
theorem xX {keys:List (Option Expr)} {values:List Expr} {ps:List (FE × FE)} (h:Jn X pos keys values ps) (hall:keys.all (·.isSome)=true:=by rfl) (hl:keys.length=values.length:=by rfl) (h0:keys≠[]:=by exact List.cons_ne_nil _ _)
    (h15:keys.length<=15:=by decide):SE X (.Dict keys values pos) (jb ps):=by
  obtain⟨trs,hp,ht⟩:=h;intro su h σ H m rs rh Q fin;refine da (pe_disp hp hall hl h0 h15) fun p hn=>?_
  have mC:=Up.new (K:=X.K) (m:=m) (n:=h.length) (p:=p) (o:=.dK []) hn;have rh0:=rh.new (ob:=.cq []) hn ⟨[],upd_same,rfl⟩;have hlt:h.length < (h++[O.cq []]).length:=by rw[len_app];exact Nat.lt_succ_self _
  have upF:Up X.K m H h.length (ext m h.length p) (upd H p (.dK [])) (h++[O.cq []]).length:=by rw[len_app];exact mC
  have f1:=Fin.up upF fin;refine ht su (h++[.cq []]) σ _ _ (by rw[len_app];exact rs.up mC) rh0 _ ((Fin.bind (RV:=JD X) f1).imp fun xs H2 ⟨us,h2,m2,up2,r2,rh2,fin2⟩=>?_)
  have hm2:m2 h.length=p:=by rw[up2.eq _ hlt];exact cX
  cases e2:h2[h.length]? with
  | none=>rw[e2] at fin2;exact False.elim fin2
  | some ob=>
    rw[e2] at fin2;cases ob with
    | cq kvs=>
      cases kvs with
      | nil=>
        dsimp only at fin2;split at fin2
        . rename_i hk
          rw[Bool.and_eq_true,decide_eq_true_eq] at hk;obtain⟨ks,ek,rk⟩:=rh2.at_ _ _ e2;have e0:ks=[]:=rk;subst e0;rw[hm2] at ek;obtain⟨kvs,e3,rk3⟩:=xy r2.1 r2.2 hk.1;have hM:Mut (H2 p):=by rw[ek];trivial
          have upM:=Up.CI (K:=X.K) (m:=m2) (n:=h2.length) (o:=.dK (mergeK [] kvs)) hM;have rk0:fU X.K X.mg m2 H2 h2.length [] []:=rfl;have rh5:=rh2.put (ob':=.cq (us.foldl (fun acc kv=>lb acc kv.1 kv.2) [])) (o:=.dK (mergeK [] kvs)) e2 rfl rfl (by rw[hm2];exact⟨_,upd_same,fU.up upM _ _ (fU.merge rk3 rk0)⟩)
          rw[hm2] at rh5;refine⟨ek,kvs,e3,by rw[<- rk3.length];exact hk.2,?_⟩
          exact fin2 (.ref p) m2 _ (by rw[eI];exact upM) (by simp only[cW,RU];rw[eI];exact⟨Nat.lt_of_lt_of_le hlt up2.le,by rw[hm2]⟩) rh5
        . exact False.elim fin2
      | cons p r=>exact False.elim fin2
    | _=>exact False.elim fin2
def lK (o i v:U) (h:Hm):Option Hm:=match o with
  | .ref r=>match h[r]? with
    | some (.lst us)=>match i with
      | .int k=>(ixN us.length k).map fun j=>h.set r (.lst (us.set j v))
      | _=>none
    | some (.cq kvs)=>match eS i with
      | some q=>if kvs.length < 16777216 then some (h.set r (.cq (lb kvs i v))) else none
      | none=>none
    | _=>none
  | _=>none
theorem Cc {o i v:U} {h h':Hm} (e:lK o i v h=some h'):h'.length=h.length:=by
  unfold lK at e;split at e
  . split at e
    . split at e
      . obtain⟨j,_,e⟩:=mOsZ.mp e
        subst e;exact eI
      . cases e
    . split at e
      . split at e
        . cases e;exact eI
        . cases e
      . cases e
    . cases e
  . cases e
theorem sG (G:Good X j) {m:Nat->Addr} {H:Hp} {h h':Hm} {o i v:U} {x y z:V} {Q:Hp->Prop} (r1:RU X.K X.mg m H h.length o x) (r2:RU X.K X.mg m H h.length i y) (r3:RU X.K X.mg m H h.length v z) (rh:RH X.w X.K X.mg m H h) (e:lK o i v h=some h')
    (post:∀ m' H',Up X.K m H h.length m' H' h'.length->RH X.w X.K X.mg m' H' h'->Q H'):∃ t,PSet X t/\t x y z H Q:=by
  have hl:=Cc e;unfold lK at e;split at e
  . rename_i r
    simp only[RU] at r1;split at e
    . rename_i us hq
      split at e
      . rename_i k
        simp only[RU] at r2;obtain⟨n,hn,e⟩:=mOsZ.mp e;subst e;obtain⟨xs,hx,rx⟩:=rh.at_ r _ hq;have hM:Mut (H (m r)):=by rw[hx];trivial
        have upM:=Up.CI (K:=X.K) (m:=m) (n:=h.length) (o:=.lst (xs.set n z)) hM;exact⟨_,set_list,m r,xs,k,n,r1.2,r2,hx,by rw[<- rx.length];exact hn,post m _ (by rw[eI];exact upM) (rh.put hq rfl rfl ⟨_,upd_same,a5.up upM _ _ (rx.set n r3)⟩)⟩
      . cases e
    . rename_i kvs hq
      split at e
      . rename_i q hk
        split at e
        . rename_i hlt
          cases e
          obtain⟨ks,hx,rk⟩:=rh.at_ r _ hq;have hM:Mut (H (m r)):=by rw[hx];trivial
          have upM:=Up.CI (K:=X.K) (m:=m) (n:=h.length) (o:=.dK (putK ks q z)) hM;exact⟨_,set_dict G.Ig,m r,_,r1.2,.inl ⟨ks,q,hx,mQ hk r2,by rw[<- rk.length,c8];exact hlt,rfl⟩,post m _ (by rw[eI];exact upM) (rh.put hq rfl rfl ⟨_,upd_same,fU.up upM _ _ (rk.put hk r3)⟩)⟩
        . cases e
      . cases e
    . cases e
  . cases e
def mD (i:Nat) (g:G2) (fe:FE):FS:=fun su h=>match su[i]? with
  | some (some u)=>(fe su h).st su fun w h1=>match g u w h1 with
    | some (z,h2)=>.nx (su.set i (some z)) h2
    | none=>.bad
  | _=>.bad
def JH (X:Cx) (op:Operator) (g:G2):Prop:=∀ m H h u w x y u' h' Q,RU X.K X.mg m H h.length u x->RU X.K X.mg m H h.length w y->RH X.w X.K X.mg m H h->g u w h=some (u',h')->gX X m H h (cW X) u' h' Q->∃ r,PIp X op r/\r x y H Q
theorem Hk {op:Operator} {g:G2} {n:Nat} {x:Str} {pos':Pos} (G:Good X j) (hi:X.N[n]?=some x) (hx:Loc X.env.scope x) (he:SE X e fe) (ho:JH X op g) (hf:X.fn x=true\/X.env.scope.names.lookup x=some .local:=by first | exact .inl rfl | exact .inr rfl | assumption) :
    SS X (.AugAssign (.Name x pos') op e pos) (mD n g fe):=by
  intro su h σ H m rs rh D fin;unfold mD at fin;split at fin
  . rename_i u eu
    obtain⟨v,ev,rv⟩:=rs.get eu;have pp:PIp X op (fun x y H Q=>∃ r,PIp X op r/\r x y H Q):=fun pins s σ H x y v u Q I r1 r2 ⟨r,hr,q⟩=>hr pins s σ H x y v u Q I r1 r2 q
    refine eL (ps_aug G.nd hi hx bO pp hf) ⟨v,ev,?_⟩;refine he su h σ H m rs rh _ ((bY.bind (RV:=cW X) rs fin).imp fun y H1 ⟨w,h1,m1,up1,r1,rh1,fin1⟩=>?_)
    split at fin1
    . rename_i z h2 ez
      refine ho m1 H1 h1 u w v y z h2 _ (RU.up up1 _ _ rv) r1 rh1 ez fun zv m' H' up r rh'=>?_
      exact fin1 _ m' H' up (((rs.up up1).up up).set n r) rh'
    . exact False.elim fin1
  . exact False.elim fin
def qf:G2:=fun u w h=>match u,w with
  | .int i,.int j=>some (.int (i + j),h)
  | .str x,.str y=>if x.length + y.length<=16777216 then some (.str (x++y),h) else none
  | _,_=>none
theorem Df:PIp X .Add (fun x y H Q=>∃ i j,x=.str i/\y=.str j/\i.length + j.length<=sizeLine/\Q (.str (i++j)) H):=by
  intro pins s σ H x y v u Q I rx ry h;exact iop_add_str pins s σ H x y v u Q I rx ry h
theorem Eo:JH X .Add qf:=by
  intro m H h u w x y u' h' Q r1 r2 rh e post;unfold qf at e;split at e
  . rename_i i j
    cases e
    simp only[RU] at r1 r2;subst r1 r2;exact⟨_,ip_add,i,j,rfl,rfl,post_int rh post⟩
  . rename_i a b
    split at e
    . rename_i hl
      cases e
      simp only[RU] at r1 r2;subst r1 r2;exact⟨_,Df,S a,S b,rfl,rfl,by rw[S_len,S_len,c8];exact hl,by rw[EN];exact post_str rh post⟩
    . cases e
  . cases e
def o7 (tbl:List (List Nat × Int)) (fb:FE):FE:=fun su h=>(fb su h).bind fun w h1=>match w with
  | .str z=>match tbl.lookup z with
    | some i=>.ok (.int i) h1
    | none=>.bad
  | _=>.bad
theorem G5 {x:Str} {d:Addr} {es:Array DictEntry} {n:Nat} {tbl:List (List Nat × Int)} {px:Pos} (hg:Gl X x) (hm:X.mg x=some (.ref d)) (D:KDict X.K X.w d es n) (ht:∀ z i,tbl.lookup z=some i->∃ t,PySem.W.nsIn X.K d (S z)=some (some (.int i t))) (hb:SE X b fb)
    (hs:PlainIx b:=by intro _ _;rfl) (hd:(x == ("__debug__" : Str))=false:=by decide):SE X (.Subscript (.Name x px) b pos) (o7 tbl fb):=by
  intro su h σ H m rs rh Q fin;refine⟨fun pins s I=>?_⟩
  have two':lJ X (.Name x px) σ H fun x H1=>lJ X b σ H1 fun y H2=>∃ r,IxR X r/\r x y H2 Q:=by
    refine da (pe_glob (v:=.ref d) hg hm rfl hd) ?_;refine hb su h σ H m rs rh _ ((Fin.bind (RV:=cW X) fin).imp fun y H2 ⟨w,h2,m2,up2,r2,rh2,fin2⟩=>?_)
    split at fin2
    . rename_i z
      split at fin2
      . rename_i i hi
        obtain⟨t,ht⟩:=ht z i hi;simp only[cW,RU] at r2;subst r2;refine⟨fun x y H Q=>∃ (z:Str) (u0:Value) (v0:V),x=.ref d/\y=.str z/\PySem.W.nsIn X.K d z=some (some u0)/\RelV v0 u0/\Q v0 H,?_,S z,_,.int i,rfl,rfl,ht,⟨t,rfl⟩,fin2 (.int i) m2 H2 .refl (by simp only[cW,RU]) rh2⟩
        intro value slice pins s σ H x y v u Q I rx ry hq hs;have ex:x=.ref d:=hq.choose_spec.choose_spec.choose_spec.1;have ev:v=.ref d:=by rw[ex] at rx;exact rx
        have q2:=op_item_kd D pins s σ H x y v u Q I rx ry hq;subst ev;exact tail_any (kd_type D I) PySem.F.slot_dict_getitem.lookup q2 hs
      . exact False.elim fin2
    . exact False.elim fin2
  exact Subscript_ (binT bO bO I two' fun v u s2 x y H2 I2 rx ry ⟨r,hr,q⟩=>hr (.Name _ px) b pins s2 σ H2 x y v u Q I2 rx ry q (hs _ _))
end
end UL

namespace UL
open PySem PySem.Spec PyProof.Rows L2
variable [bo]
def uQ (f:Str) (v:U):List (Str × U)->List (Str × U)
  | []=>[(f,v)]
  | (g,x)::r=>if g=f then(g,v)::r else(g,x)::uQ f v r
section
variable {K:PySem.W.Frag} {mg:Str->Option Value} {m:Nat->Addr} {H:Hp} {n:Nat}
theorem ja.put {f:Str} {u:U} {v:V} (ru:RU K mg m H n u v):∀ {us:List (Str × U)} {vs:List (Str × V)},ja K mg m H n us vs->ja K mg m H n (uQ f u us) (putF f v vs)
  | [],_,r=>by
    have e:_=[]:=r;subst e;exact⟨v,[],rfl,ru,rfl⟩
  | (g,w)::us,_,r=>by
    obtain⟨x,t,e,h1,h2⟩:=r;subst e;show ja K mg m H n (if g=f then(g,u)::us else(g,w)::uQ f u us) (if g=f then(g,v)::t else(g,x)::putF f v t)
    by_cases h:g=f
    . rw[if_pos h,if_pos h];exact⟨v,t,rfl,ru,h2⟩
    . rw[if_neg h,if_neg h];exact⟨x,_,rfl,h1,ja.put ru h2⟩
theorem ja.lookup {f:Str}:∀ {us:List (Str × U)} {vs:List (Str × V)},ja K mg m H n us vs->(us.lookup f=none->vs.lookup f=none)/\∀ u,us.lookup f=some u->∃ v,vs.lookup f=some v/\RU K mg m H n u v
  | [],_,r=>by
    have e:_=[]:=r;subst e;exact⟨fun _=>rfl,fun u z=>nomatch z⟩
  | (g,w)::us,_,r=>by
    obtain⟨x,t,e,h1,h2⟩:=r;subst e;simp only[List.lookup];cases f == g with
    | true=>exact⟨fun z=>(nomatch z),fun u z=>by cases z;exact⟨x,rfl,h1⟩⟩
    | false=>exact ja.lookup h2
theorem ja.length:∀ {us:List (Str × U)} {vs:List (Str × V)},ja K mg m H n us vs->us.length=vs.length
  | [],_,r=>by
    have e:_=[]:=r;subst e;rfl
  | (g,w)::us,_,r=>by
    obtain⟨x,t,e,h1,h2⟩:=r;subst e;simp[ja.length h2]
end
section
variable {X:Cx} {a b e o value:Expr} {es:List Expr} {fa fb fe fo:FE} {fr:FA} {pos pos' apos p:Pos} {j:Nat} {f x:Str}
inductive AT where
  | fld
  | prop (F:Fn)
def CK (X:Cx) (j:Nat) (c f:Str):AT->Prop
  | .fld=>∀ C,X.mg c=some (.ref C)->Cls X.K C/\NoAttr X.K C f
  | .prop F=>∀ C,X.mg c=some (.ref C)->Cls X.K C/\∃ p g k,PropOf X.K C f p g/\dA X.prog X.w X.K X.mg X.base k g 1 F/\k + 1<=j
def w6 (tab:List (Str × AT)) (f:Str) (u:U) (h:Hm):Rs U:=match u with
  | .ref i=>match h[i]? with
    | some (.ins c fs)=>match tab.lookup c with
      | some .fld=>match fs.lookup f with
        | some v=>.ok v h
        | none=>.bad
      | some (.prop F)=>bx (F [.ref i] h)
      | none=>.bad
    | _=>.bad
  | _=>.bad
def gA (tab:List (Str × AT)) (f:Str) (fo:FE):FE:=fun su h=>(fo su h).bind fun u h1=>w6 tab f u h1
theorem mem_lookup {α β:Type} [BEq α] [LawfulBEq α] {k:α} {v:β}:∀ {l:List (α × β)},l.lookup k=some v->(k,v)∈l
  | [],h=>by cases h
  | (k',v')::l,h=>by
    simp only[List.lookup] at h;split at h
    . rename_i e
      cases h
      rw[eq_of_beq e];exact List.mem_cons_self ..
    . exact List.mem_cons_of_mem _ (mem_lookup h)
theorem C6 {m:Nat->Addr} {H:Hp} {h:Hm} {σ:Sg} {r:Rs U} {Q:VK} (fin:Fin X σ m H h (cW X) (bx r) Q):Fw X.w X.K X.mg m H h r Q (fun _ _ _=>False):=by
  obtain⟨n,f⟩:=fin.quiet;cases r with
  | ok u h'=>exact f
  | ex=>exact n.elim
  | bad=>exact f
theorem CS {m:Nat->Addr} {H:Hp} {h:Hm} {σ:Sg} {u:U} {y:V} {v:Value} {tab:List (Str × AT)} {Q:VK} {bb:Bool} {pins:List (Addr × Obj)} {s:Shared} (G:Good X j) (ht:∀ t∈tab,CK X j t.1 f t.2) (I:Inv X pins σ H s) (ry:RelV y v) (r:RU X.K X.mg m H h.length u y) (rh:RH X.w X.K X.mg m H h)
    (fin:Fin X σ m H h (cW X) (w6 tab f u h) Q):wpAny (model X.prog X.w) X.A (getAttr v f bb) (EP X pins σ Q) X.xe s:=by
  unfold w6 at fin;split at fin
  . rename_i i
    simp only[RU] at r;split at fin
    . rename_i c fs hi
      obtain⟨C,dx,vs,hC,ea,rf⟩:=rh.at_ i _ hi;have ev:v=.ref (m i):=by rw[r.2] at ry;exact ry
      subst ev;split at fin
      . rename_i e0
        obtain⟨cl,na⟩:=ht _ (mem_lookup e0) C hC;split at fin
        . rename_i w hw
          obtain⟨z,hz,rz⟩:=(rf.lookup (f:=f)).2 w hw;exact getattr_ok I ea cl na hz fun u' s2 I2 ru=>⟨z,H,I2,ru,fin z m H .refl rz rh⟩
        . exact False.elim fin
      . rename_i F e0
        obtain⟨cl,pr,g,k,hp,D,hk⟩:=ht _ (mem_lookup e0) C hC;obtain⟨kp,dl,fd,ps,Fo,hb⟩:=D;have fc:=C6 fin;have sp:Hi X.w X.K X.mg 1 F [.ref (m i)] H Q (fun _ _ _=>False):=⟨rfl,[.ref i],h,m,by simp only[a5,RU];exact⟨_,_,rfl,⟨r.1,rfl⟩,rfl⟩,rh,fc⟩
        obtain⟨mA,O,_,_,_,_⟩:=ins_get I.hok ea;obtain⟨od,J,_⟩:=O.look;obtain⟨rest,hrec⟩:=hp.rec_;have I1:=I.tok (s.toks + 1)
        have hl:([Value.ref (m i)]++([]:List Value)).length=ps.length:=by
          rw[<- Fo.len _ _ _ _ sp];rfl
        have hc:(PySem.W.clsIn X.K C).isSome=true:=by
          obtain⟨cd,hc,_⟩:=PySem.W.any_some cl.hd;rw[hc];rfl
        refine PySem.W.get_bind I.kIn J (PySem.W.plainGet_of (cl.get f)).1 (PySem.W.findObj_data hc hp.at_ hp.get hp.tak) (PySem.W.plainGet_of (cl.get f)).2 (wpAny_call (PySem.W.prop_get (s:={ s with toks:=s.toks + 1 }) I.kIn hrec ?_))
        refine codeAny_mono (Fo.run X.A.in1 X.stack { s with toks:=s.toks + 1 } H ⟨[.ref (m i)],[]⟩ [.ref (m i)] [.ref (m i)] Q (fun _ _ _=>False) G.gd (G.room.mono hk).in1 I1.env0.in1 (hb _ [.ref (m i)] I1.kIn hl) (.cons rfl .nil) sp) fun r s' hq=>?_
        cases r with
        | error er=>
          obtain⟨a,B,H',cls,d,_,_,_,_,_,_,_,z⟩:=(show CX X.prog X.w X.stack H { s with toks:=s.toks + 1 } (fun _ _ _=>False) er s' from hq)
          exact z.elim
        | ok fl=>
          cases fl with
          | ret u=>
            obtain⟨v,H',I3,rv,q3⟩:=I1.after hq;show wpAny _ _ (handedOut u) _ _ _;rw[PySem.W.handedOut_of (handed_of rv)];exact wpAny_pure ⟨v,H',I3,rv,q3⟩
          | next=>exact False.elim hq
          | brk=>exact False.elim hq
          | cont=>exact False.elim hq
      . exact False.elim fin
    . exact False.elim fin
  . exact False.elim fin
theorem sA {tab:List (Str × AT)} (G:Good X j) (ht:∀ t∈tab,CK X j t.1 f t.2) (ho:SE X o fo) (hab:attributeBase o f X.env (eval o X.env)=eval o X.env:=by rfl):SE X (.Attribute o f pos) (gA tab f fo):=by
  intro su h σ H m rs rh Q fin;refine⟨fun pins s I=>?_⟩
  refine attr_of hab (thn (ho su h σ H m rs rh _ (Fin.bind (RV:=cW X) fin) pins s I) fun v s1 ⟨y,H1,I1,ry,u,h1,m1,up1,r1,rh1,fin1⟩=>?_)
  exact CS G ht I1 ry r1 rh1 fin1

def kg (cs:List Str) (f:Str) (o v:U) (h:Hm):Option Hm:=match o with
  | .ref i=>match h[i]? with
    | some (.ins c fs)=>if c∈cs/\fs.length < 1000 then some (h.set i (.ins c (uQ f v fs))) else none
    | _=>none
  | _=>none
def hX (cs:List Str) (f:Str) (fo:FE):FG:=fun v su h=>(bx (fo su h)).bind fun o h1=>match kg cs f o v h1 with
  | some h2=>.ok su h2
  | none=>.bad
theorem mW {cs:List Str} (ht:∀ c∈cs,CK X j c f .fld) (ho:SE X o fo):SG X (.Attribute o f pos) (hX cs f fo) []:=by
  intro u v su h σ H m r rs rh Q fin;refine⟨fun pins s w I rw'=>?_⟩
  have f1:=(Fin.bind (RV:=cW X) fin).quiet.2;refine PySem.W.kas_attr (thn (ho su h σ H m rs rh _ f1 pins s I) fun ov s1 ⟨x,H1,I1,rx,uo,h1,m1,up1,r1,rh1,fin1⟩=>?_)
  split at fin1
  . rename_i h2 e2
    unfold kg at e2;split at e2
    . rename_i i
      simp only[cW,RU] at r1;split at e2
      . rename_i c fs hi
        split at e2
        . rename_i hc
          cases e2
          obtain⟨C,dx,vs,hC,ea,rf⟩:=rh1.at_ i _ hi;obtain⟨cl,na⟩:=ht c hc.1 C hC;have ev:ov=.ref (m1 i):=by rw[r1.2] at rx;exact rx
          subst ev;refine setattr_ok I1 ea cl na (by rw[<- rf.length];exact hc.2) rw' fun s3 I3=>?_
          have hM:Mut (H1 (m1 i)):=by rw[ea];trivial
          have upM:=Up.CI (K:=X.K) (m:=m1) (n:=h1.length) (o:=.ins C dx (putF f v vs)) hM;refine⟨σ,_,I3,Off.refl,fin1 σ m1 _ (by rw[eI];exact upM) (by rw[eI];exact(rs.up up1).up upM) (rh1.put hi rfl rfl ⟨C,dx,_,hC,upd_same,ja.up upM _ _ (rf.put (RU.up up1 _ _ r))⟩)⟩
        . cases e2
      . cases e2
    . cases e2
  . exact False.elim fin1

def uB (c:Str) (F:Fn) (us:List U) (h:Hm):Rs U:=match F (.ref h.length::us) (h++[.ins c []]) with
  | .ok .non h2=>.ok (.ref h.length) h2
  | .ok _ _=>.bad
  | .ex c fs h2=>.ex c fs h2
  | .bad=>.bad
def A6 (c:Str) (F:Fn) (fr:FA):FE:=fun su h=>(fr su h).bind fun us h1=>uB c F us h1
structure zQ (X:Cx) (j:Nat) (c:Str) (F:Fn) (C:Addr):Prop where
  mg:X.mg c=some (.ref C)
  made:∃ f k np,Mk X.K C f/\dA X.prog X.w X.K X.mg X.base k f np F/\k + 1<=j
theorem uN (A:Around) (C:Addr) (us:List Value) (kw:List (Str × Value)) (h:A.guards=some []):(A.under (.builtin "type.__call__" ⟨.ref C::us,kw⟩)).guards=some []:=by
  show pushGuards (Code.guards (.builtin "type.__call__" ⟨.ref C::us,kw⟩)) A.guards=some [];rw[h];rfl
theorem zo {pins:List (Addr × Obj)} {σ:Sg} {s:Shared} {H:Hp} {m:Nat->Addr} {h:Hm} {Q:VK} {C:Addr} {c:Str} {F:Fn} {us:List U} {vs:List V} {ws:List Value} (G:Good X j) (M:zQ X j c F C) (I:Inv X pins σ H s) (rv:Vals vs ws) (rus:a5 X.K X.mg m H h.length us vs) (rh:RH X.w X.K X.mg m H h)
    (fin:Fin X σ m H h (cW X) (uB c F us h) Q):wpAny (model X.prog X.w) X.A (call (.ref C) ws) (EP X pins σ Q) X.xe s:=by
  obtain⟨hC,f,k,np,Mk,D,hk⟩:=M;obtain⟨kp,dl,fd,ps,Fo,hb⟩:=D;have hx:H (s.heap.objs.size + 1)=none:=I.hok.fresh (Nat.le_succ _);have hdx:H s.heap.objs.size=none:=I.hok.fresh (Nat.le_refl _);have ne:s.heap.objs.size≠s.heap.objs.size + 1:=Nat.ne_of_lt (Nat.lt_succ_self _);have I2:=Inv.made (C:=C) I;have hx2:(upd H s.heap.objs.size (.own (s.heap.objs.size + 1))) (s.heap.objs.size + 1)=none:=by rw[upd_ne (Ne.symm ne)];exact hx
  have up1:=Up.one (K:=X.K) (m:=m) (n:=h.length) (o:=.own (s.heap.objs.size + 1)) hdx;have rh1:=rh.one (o:=.own (s.heap.objs.size + 1)) hdx;have up2:=Up.new (K:=X.K) (m:=m) (n:=h.length) (o:=.ins C s.heap.objs.size []) hx2;have rh2:=rh1.new (ob:=.ins c []) (o:=.ins C s.heap.objs.size []) hx2 ⟨C,_,[],hC,upd_same,rfl⟩;have upA:=up1.trans up2
  have uV:a5 X.K X.mg (ext m h.length (s.heap.objs.size + 1)) (upd (upd H s.heap.objs.size (.own (s.heap.objs.size + 1))) (s.heap.objs.size + 1) (.ins C s.heap.objs.size [])) (h++[O.ins c []]).length (.ref h.length::us) (.ref (s.heap.objs.size + 1)::vs):=by
    rw[len_app];simp only[a5,RU];exact⟨_,_,rfl,⟨Nat.lt_succ_self _,by rw[cX]⟩,a5.up upA _ _ rus⟩
  have fin2:Fin X σ (ext m h.length (s.heap.objs.size + 1)) (upd (upd H s.heap.objs.size (.own (s.heap.objs.size + 1))) (s.heap.objs.size + 1) (.ins C s.heap.objs.size [])) (h++[O.ins c []]) (cW X) (F (.ref h.length::us) (h++[.ins c []])) (fun v H2=>v=.non/\Q (.ref (s.heap.objs.size + 1)) H2):=by
    unfold uB at fin;have fin':=Fin.up (h1:=h++[O.ins c []]) (by rw[len_app];exact upA) fin
    cases e:F (.ref h.length::us) (h++[.ins c []]) with
    | ok u h3=>
      rw[e] at fin';cases u with
      | non=>
        intro v m' H' p r rh';simp only[cW,RU] at r;refine⟨r,fin' (.ref (s.heap.objs.size + 1)) m' H' p ?_ rh'⟩;have hlt:h.length < (h++[O.ins c []]).length:=by rw[len_app];exact Nat.lt_succ_self _
        simp only[cW,RU];exact⟨Nat.lt_of_lt_of_le hlt p.le,by rw[p.eq _ hlt,cX]⟩
      | _=>exact False.elim fin'
    | ex c' fs h3=>rw[e] at fin';exact fin'
    | bad=>rw[e] at fin';exact fin'
  obtain⟨E,fc,pa⟩:=tV fin2
  have hl:(V.ref (s.heap.objs.size + 1)::vs).length=np:=by
    by_cases z:(U.ref h.length::us).length=np
    . rw[<- uV.length];exact z
    . rw[dl _ _ z] at fin2;exact False.elim fin2
  have sp:Hi X.w X.K X.mg np F (.ref (s.heap.objs.size + 1)::vs) (upd (upd H s.heap.objs.size (.own (s.heap.objs.size + 1))) (s.heap.objs.size + 1) (.ins C s.heap.objs.size [])) (fun v H2=>v=.non/\Q (.ref (s.heap.objs.size + 1)) H2) E:=⟨hl,_,_,_,uV,rh2,fc⟩
  have r2:Vals (V.ref (s.heap.objs.size + 1)::vs) (Value.ref (s.heap.objs.size + 1)::ws):=.cons rfl rv;have hl2:((Value.ref (s.heap.objs.size + 1)::ws)++([]:List Value)).length=ps.length:=by rw[List.append_nil,<- r2.length];exact Fo.len _ _ _ _ sp
  have hbt:=hb _ (Value.ref (s.heap.objs.size + 1)::ws) I2.kIn hl2;rw[List.append_nil] at hbt
  refine wpAny_call (make_map (f:=f) I.kIn Mk.makes Mk.init (beq_iff_eq.mp Mk.fn) (codeAny_mono (Fo.run _ X.stack _ _ ⟨Value.ref (s.heap.objs.size + 1)::ws,[]⟩ (Value.ref (s.heap.objs.size + 1)::ws) _ _ E (uN _ _ _ _ G.gd) ((G.room.mono hk).make C ws [])
    (I2.env0.make C ws []) hbt r2 sp) fun r s' hq'=>?_))
  cases r with
  | error e=>exact pa pins _ _ e s' I2 hq'
  | ok fl=>
    cases fl with
    | ret u=>
      obtain⟨v,H',I3,rv,ev,q3⟩:=I2.after hq';subst ev;exact⟨rv,⟨V.ref (s.heap.objs.size + 1),H',I3,rfl,q3⟩⟩
    | next=>exact False.elim hq'
    | brk=>exact False.elim hq'
    | cont=>exact False.elim hq'
theorem Ei {C:Addr} {F:Fn} (G:Good X j) (M:zQ X j x F C) (hg:Gl X x) (kpC:PySem.W.keepIn X.K (.ref C)=true) (ha:SA X (e::es) fr) (hdb:(x == ("__debug__" : Str))=false:=by decide)
    (he:starEach (e::es) X.env=(false,eval e X.env)::starEach es X.env:=by rfl) (hpl:(backTo pos (starEach es X.env)).any (·.1)=false:=by rfl):SE X (.Call (.Name x p) (e::es) [] pos) (A6 x F fr):=by
  intro su h σ H m rs rh Q fin;refine⟨fun pins s I=>?_⟩
  refine wpAny_Call_Name_kw (ld_glob I hg M.mg ?_ hdb);refine PySem.W.callWith_K (h₀:=X.base) I.ok.mod.kin kpC (thn (ha su h σ H m rs rh _ (Fin.bind (RV:=gj X) fin) pos pins s I) fun us s1 ⟨vs,H1,I1,r,us',h1,m1,up1,rus,rh1,fin1⟩=>⟨I1.kIn,?_⟩) he hpl
  exact zo G M I1 r rus rh1 fin1
end
end UL

namespace UL
open PySem PySem.Spec PyProof.Rows L2
variable [bo]
def pF (u:U) (h:Hm):Option (String ⊕ Str):=match u with
  | .non=>some (.inl "NoneType")
  | .bl _=>some (.inl "bool")
  | .int _=>some (.inl "int")
  | .str _=>some (.inl "str")
  | .tup _=>some (.inl "tuple")
  | .ref i=>match h[i]? with
    | some (.lst _)=>some (.inl "list")
    | some (.fro _)=>some (.inl "list")
    | some (.cq _)=>some (.inl "dict")
    | some (.dN _)=>none
    | some (.ins c _)=>some (.inr c)
    | some (.exd _ _)=>none
    | some (.dL _)=>none
    | none=>none
  | _=>none
def uf (t n:String):Bool:=t == n || (t == "bool" && n == "int")
def ei (cs:List Str):GB:=fun us h=>match us with
  | [u,.ty n]=>if n∈eM then(match pF u h with
    | some (.inl t)=>some (.bl (uf t n),h)
    | some (.inr c)=>if c∈cs then some (.bl false,h) else none
    | none=>none) else none
  | [u,.glo x]=>if x∈cs then(match pF u h with
    | some (.inl _)=>some (.bl false,h)
    | some (.inr c)=>if c=x then some (.bl true,h) else if c∈cs then some (.bl false,h) else none
    | none=>none) else none
  | _=>none
structure Jg (K:PySem.W.Frag) (C:Addr):Prop where
  cls:Cls K C
  at_:PySem.W.findIn K (.ref C) "__class__" = some (some (.builtin "object.__class__"))
  get:PySem.W.specialIn K (.builtin "object.__class__") "__get__" = some (some (.builtin "getset_descriptor.__get__"))
  tak:PySem.W.takesIn K (.builtin "object.__class__")=some true
  mro:PySem.W.mroIn K C (.type "object")=some true
  ofTy:∀ t∈eM,PySem.W.kitOne K (.type t) (.ref C)=some false
  toTy:∀ t∈eM,PySem.W.kitOne K (.ref C) (.type t)=some false
structure EM (X:Cx) (cs:List Str):Prop where
  one:∀ c∈cs,∃ C,X.mg c=some (.ref C)/\Jg X.K C
  two:∀ c∈cs,∀ d∈cs,c≠d->∀ C D,X.mg c=some (.ref C)->X.mg d=some (.ref D)->PySem.W.kitOne X.K (.ref C) (.ref D)=some false
theorem yL:∀ t∈eM,∀ n∈eM,kitB t n=some (uf t n):=by decide +kernel
section
variable {X:Cx}
theorem Fs {m:Nat->Addr} {H:Hp} {h:Hm} {u:U} {x:V} {t:String} (r:RU X.K X.mg m H h.length u x) (rh:RH X.w X.K X.mg m H h) (e:pF u h=some (.inl t)):t∈eM/\TyX X.K H x (.type t):=by
  unfold pF at e;split at e
  . cases e;simp only[RU] at r;subst r;exact⟨by decide,.base .non⟩
  . cases e;simp only[RU] at r;subst r;exact⟨by decide,.base (.bl _)⟩
  . cases e;simp only[RU] at r;subst r;exact⟨by decide,.base (.int _)⟩
  . cases e;simp only[RU] at r;subst r;exact⟨by decide,.base (.str _)⟩
  . cases e
    simp only[RU] at r;obtain⟨a,xs,e,t,_⟩:=r;subst e;refine⟨by decide,?_⟩
    rcases t with (t | ⟨o,t⟩) | ⟨o,its,n,t1,t2,_⟩
    . exact .base (.tup t)
    . exact .fTuple t
    . exact .kTuple t1 t2
  . rename_i i
    simp only[RU] at r;rw[r.2];split at e
    . rename_i us hq
      cases e
      obtain⟨xs,ex,_⟩:=rh.at_ i _ hq;exact⟨by decide,.base (.lst ex)⟩
    . rename_i us hq
      cases e
      obtain⟨xs,ex,_⟩:=rh.at_ i _ hq;refine⟨by decide,?_⟩
      rcases ex with ⟨o,ex⟩ | ⟨o,its,n,t1,t2,_⟩
      . exact .base (.frz ex)
      . exact .kList t1 t2
    . rename_i us hq
      cases e
      obtain⟨xs,ex,_⟩:=rh.at_ i _ hq;exact⟨by decide,.base (.dK ex)⟩
    . cases e
    . cases e
    . cases e
    . cases e
    . cases e
  . cases e
theorem Ft {m:Nat->Addr} {H:Hp} {h:Hm} {u:U} {x:V} {c:Str} (r:RU X.K X.mg m H h.length u x) (rh:RH X.w X.K X.mg m H h) (e:pF u h=some (.inr c)):∃ a C dx fs,x=.ref a/\X.mg c=some (.ref C)/\H a=some (.ins C dx fs):=by
  unfold pF at e;split at e<;>try cases e
  rename_i i;simp only[RU] at r;split at e<;>try cases e
  rename_i fs hq;obtain⟨C,dx,vs,hC,ex,_⟩:=rh.at_ i _ hq;exact⟨_,C,dx,vs,r.2,hC,ex⟩
theorem Jg.ty {C:Addr} (k:Jg X.K C) {H:Hp} {a dx:Addr} {fs:List (Str × V)} (e:H a=some (.ins C dx fs)):TyX X.K H (.ref a) (.ref C):=.base (.ins e k.cls k.at_ k.get k.tak k.mro)
theorem oQ {cs:List Str} (ok:EM X cs):SB X (.builtin "isinstance") (ei cs):=by
  intro m H h us vs u' h' Q r rh e post;unfold ei at e;split at e
  . rename_i u n
    obtain⟨v,y,e1,r1,r2⟩:=uV r;simp only[RU] at r2;subst e1 r2;split at e
    . rename_i hn
      split at e
      . rename_i t ht
        cases e
        obtain⟨t1,t2⟩:=Fs r1 rh ht;exact⟨_,call_isi,v,.ty n,.type t,.type n,uf t n,rfl,.ty n,t2,kit_ty (yL t t1 n hn),cj rh post⟩
      . rename_i c hc
        split at e
        . rename_i hcs
          cases e
          obtain⟨a,C,dx,fs,e2,hC,ea⟩:=Ft r1 rh hc;obtain⟨C',hC',k⟩:=ok.one c hcs;rw[hC] at hC';cases hC'
          subst e2;exact⟨_,call_isi,.ref a,.ty n,.ref C,.type n,false,rfl,.ty n,k.ty ea,k.toTy n hn,cj rh post⟩
        . cases e
      . cases e
    . cases e
  . rename_i u x
    obtain⟨v,y,e1,r1,r2⟩:=uV r;simp only[RU] at r2;obtain⟨D,e2,hD⟩:=r2;subst e1 e2;split at e
    . rename_i hx
      obtain⟨D',hD',kD⟩:=ok.one x hx;rw[hD] at hD';cases hD'
      split at e
      . rename_i t ht
        cases e
        obtain⟨t1,t2⟩:=Fs r1 rh ht;exact⟨_,call_isi,v,.ref D,.type t,.ref D,false,rfl,.own D,t2,kD.ofTy t t1,cj rh post⟩
      . rename_i c hc
        obtain⟨a,C,dx,fs,e2,hC,ea⟩:=Ft r1 rh hc;subst e2;split at e
        . rename_i heq
          cases e
          subst heq;rw[hD] at hC;cases hC
          exact⟨_,call_isi,.ref a,.ref D,.ref D,.ref D,true,rfl,.own D,kD.ty ea,by unfold PySem.W.kitOne;rw[if_pos (by simp)],cj rh post⟩
        . rename_i hne
          split at e
          . rename_i hcs
            cases e
            obtain⟨C',hC',k⟩:=ok.one c hcs;rw[hC] at hC';cases hC'
            exact⟨_,call_isi,.ref a,.ref D,.ref C,.ref D,false,rfl,.own D,k.ty ea,ok.two c hcs x hx hne C D hC hD,cj rh post⟩
          . cases e
      . cases e
    . cases e
  . cases e
def jl:FS:=fun _ _=>.bad
end
end UL

namespace UL
open PySem PySem.Spec PyProof.Rows L2
variable [bo]
section
variable {fb:List Fact} {fn:List He5.DefA} {ts:List He.Tab} {xs:List mI} {w:World} {K:PySem.W.Frag}
theorem jj.fact (c:jj fb fn ts xs w K) (i:Nat) {f:Fact} (h:fb[i]?=some f:=by rfl):f K=true:=by
  have c1:=(He.ba (show((fb.all fun f=>f K) && fn.all fun d=>d.ok K)=true from congrArg (fun z:He.AlT × List zN=>z.1.1.1) c)).1
  exact List.all_eq_true.mp c1 f (List.mem_of_getElem? h)
theorem jj.def_ (c:jj fb fn ts xs w K) (i:Nat) {d:He5.DefA} (h:fn[i]?=some d:=by rfl):∃ fd,FunD K d.name d.qual d.params d.body d.scope (d.dvs K) (d.kws K) (d.at_ K) fd:=by
  have c2:=(He.ba (show((fb.all fun f=>f K) && fn.all fun d=>d.ok K)=true from congrArg (fun z:He.AlT × List zN=>z.1.1.1) c)).2
  have e:fn.map (fun d=>He5.fnA K (d.at_ K))=fn.map He5.DefA.val:=congrArg (fun z:He.AlT × List zN=>z.1.1.2) c
  have e2:(fn.map fun d=>He5.fnA K (d.at_ K))[i]?=(fn.map He5.DefA.val)[i]?:=by rw[e]
  rw[List.getElem?_map,List.getElem?_map,h] at e2;exact He5.DefA.funD (Option.some.inj e2) (List.all_eq_true.mp c2 d (List.mem_of_getElem? h))
theorem jj.tab (c:jj fb fn ts xs w K) (i:Nat) {t:He.Tab} (h:ts[i]?=some t:=by rfl):∃ es n,KDict K w (t.1 K) es n:=by
  have e:ts.map (fun t=>He.dicW K (t.1 K))=ts.map fun t=>some (He.keysIn w.params t.2):=congrArg (fun z:He.AlT × List zN=>z.1.2) c
  have e2:(ts.map fun t=>He.dicW K (t.1 K))[i]?=(ts.map fun t=>some (He.keysIn w.params t.2))[i]?:=by rw[e]
  rw[List.getElem?_map,List.getElem?_map,h] at e2;exact He.dicW_ok (Option.some.inj e2)
theorem jj.exc (c:jj fb fn ts xs w K) (i:Nat) {x:mI} (h:xs[i]?=some x:=by rfl):EV K x=x.val:=by
  have e:xs.map (EV K)=xs.map mI.val:=congrArg (fun z:He.AlT × List zN=>z.2) c
  have e2:(xs.map (EV K))[i]?=(xs.map mI.val)[i]?:=by rw[e]
  rw[List.getElem?_map,List.getElem?_map,h] at e2;exact Option.some.inj e2
end

theorem Dh {K:PySem.W.Frag} {C:Str} (h:Dg K C=true):Jg K (He.ga K C):=by
  obtain⟨h1,h⟩:=He.ba h;obtain⟨h2,h⟩:=He.ba h;obtain⟨h3,h⟩:=He.ba h;obtain⟨h4,h⟩:=He.ba h;obtain⟨h5,h⟩:=He.ba h;obtain⟨h6,h7⟩:=He.ba h;exact⟨He.cls_ok h1,He.eqO_ok h2,He.eqO_ok h3,of_decide_eq_true h4,of_decide_eq_true h5,fun t ht=>of_decide_eq_true (List.all_eq_true.mp h6 t ht),fun t ht=>of_decide_eq_true (List.all_eq_true.mp h7 t ht)⟩
theorem ju {X:Cx} {cs:List Str} (hm:∀ c∈cs,X.mg c=some (.ref (He.ga X.K c))) (h1:∀ c∈cs,Dg X.K c=true) (h2:F8 X.K cs=true):EM X cs:=by
  refine⟨fun c hc=>⟨_,hm c hc,Dh (h1 c hc)⟩,fun c hc d hd hne C D hC hD=>?_⟩
  rw[hm c hc] at hC;rw[hm d hd] at hD;cases hC
  cases hD
  have:=List.all_eq_true.mp (List.all_eq_true.mp h2 c hc) d hd;rw[Bool.or_eq_true] at this;rcases this with e | e
  . exact absurd (eq_of_beq e) hne
  . exact of_decide_eq_true e

abbrev fE (K:PySem.W.Frag):List Addr:=bo.fs.map fun p=>CA K (p K).1
def wW (K:PySem.W.Frag) (mg:Str->Option Value) (base:Heap):Prop:=∀ p∈bo.fs,LamX.TabB base mg (FQ K (p K).1) (CA K (p K).1)
theorem yM {P:Program} {w:World} {K:PySem.W.Frag} {mg mb:Str->Option Value} {k:Nat} {fa a:Addr} {F:Fn} {s₁:Shared} {vs:List Value} {ns:List Int}
    (KX:K.In s₁.heap) (T:∀ p∈bo.fs,zU K s₁.heap (p K).1) (hbm:∃ (bm:Addr) (ob:Obj),mg "__builtins__" = some (.ref bm)/\bm≠builtinsNs/\s₁.heap.get? bm=some ob/\ob.cls=.type "module"/\ob.dict=some builtinsNs/\ob.data=.plain)
    (hns:s₁.heap.Ns mainGlobals mg) (hb:s₁.heap.Ns builtinsNs mb) (hbb:∀ x:Str,x≠"__name__" -> mb x=bootBuiltins x) (hlim:s₁.heap.NoLimit) (hg:s₁.gens=#[])
    (ha:s₁.heap.get? a=some { cls:=.type "list",data:=.seq vs.toArray }) (hi:IntsAre vs ns) (hl:ns.length<=sizeLine) (hr:Room k callerA)
    (D:∀ base:Heap,K.In base->base.Ns mainGlobals mg->wW K mg base->dA P w K mg base k fa 1 F)
    (hF:∃ h',F [.ref 0] [.fro (ns.map .int)]=.ok (.bl true) h') :
    codeAny (model P w) callerA (.call (.ref fa) ⟨[.ref a],[]⟩) (fun r s'=>r=.ok (.ret (.bool true))/\OldK s₁.heap s'.heap/\s'.os=s₁.os/\AllBare s'.gens) s₁:=by
  have rv:=vals_ints hi;have lenV:=hi.length
  have isT:∀ b:Addr,b∈fE K->s₁.heap.get? b=some { cls:=.none,data:=.fields #[] }:=fun b hb=>by
    obtain⟨p,hp,e⟩:=List.mem_map.mp hb;rw[<- e];exact(T p hp).tb
  have aT:a ∉ fE K:=fun z=>by
    have q:=isT a z;rw[ha] at q;have z':Data.seq vs.toArray _=Data.fields #[]:=congrArg Obj.data (Option.some.inj q);cases z'
  have memT:∀ p∈bo.fs,CA K (p K).1∈fE K:=fun p hp=>List.mem_map.mpr ⟨p,hp,rfl⟩
  have core:∀ H:Hp,(∀ b∈fE K,H b=some (.tbl #[]))->(∀ b,H b=none\/b∈fE K\/∃ o xs,H b=some (.frz o (.lst xs)))->vG K H a (ns.map V.int)->HOk P w H s₁.heap->(∀ b,H b≠none->b=a\/b∈fE K)->(H a≠none->K.lookup a=none) ->
      codeAny (model P w) callerA (.call (.ref fa) ⟨[.ref a],[]⟩) (fun r s'=>r=.ok (.ret (.bool true))/\OldK s₁.heap s'.heap/\s'.os=s₁.os/\AllBare s'.gens) s₁:=by
    intro H hH hO hS hok hA hK;have base_of:∀ {b:Addr} {o:Obj},s₁.heap.get? b=some o->H b=none->(hidT s₁.heap H).get? b=some o:=fun e n=>hidT_get e n
    have noD:∀ {b:Addr} {o:Obj},s₁.heap.get? b=some o->(∀ vs n,o.data≠.seq vs n)->o.data≠.fields #[]->H b=none:=fun {b o} e h1 h2=>by
      cases q:H b with
      | none=>rfl
      | some u=>
        rcases hA b (by rw[q];simp) with e' | e'
        . rw[e',ha] at e
          cases e
          exact(h1 _ _ rfl).elim
        . rw[isT b e'] at e
          cases e
          exact(h2 rfl).elim
    have noA:∀ {b:Addr} {o:Obj} {es:Array DictEntry} {ep:Nat},s₁.heap.get? b=some o->o.data=.dict es ep->H b=none:=fun {b o es ep} e d=>by
      refine noD e (fun vs n z=>?_) fun z=>?_
      . rw[d] at z
        cases z
      . rw[d] at z
        cases z
    have nsK:∀ {b:Addr} {m:Str->Option Value},s₁.heap.Ns b m->(hidT s₁.heap H).Ns b m:=fun {b m} ⟨o,es,ep,e,d,r⟩=>⟨o,es,ep,base_of e (noA e d),d,r⟩
    have hKb:K.In (hidT s₁.heap H):=fun b o e=>base_of (KX b o e) (by
      cases q:H b with
      | none=>rfl
      | some u=>
        rcases hA b (by rw[q];simp) with e' | e'
        . rw[e'] at e q
          rw[hK (by rw[q];simp)] at e
          cases e
        . obtain⟨p,hp,ep⟩:=List.mem_map.mp e'
          rw[<- ep,(T p hp).no] at e;cases e)
    have hM:L2.Mod K mg (hidT s₁.heap H):=⟨hKb,nsK hns,⟨mb,nsK hb,hbb⟩,let ⟨mc,h1,h2⟩:=hlim;⟨mc,nsK h1,h2⟩⟩
    have TB:wW K mg (hidT s₁.heap H):=fun p hp=>by
      have hTp:=(T p hp).tb;refine⟨?_,?_,fun z=>?_⟩
      . obtain⟨o,us,file,tf,flags,tg,inF,text,tt,e1,r1,r2,r3,r4,r5,r6,r7,r8,hne⟩:=(T p hp).hd
        refine⟨o,us,file,tf,flags,tg,inF,text,tt,base_of e1 (noD e1 (fun vs n z=>?_) fun z=>?_),r1,r2,r3,r4,r5,r6,r7,r8,hne⟩
        . rw[r2] at z
          cases z
        . rw[r2] at z
          cases z
          simp at r3
      . obtain⟨bm,ob,b1,b2,b3,b4,b5,b6⟩:=hbm
        have nG:bm≠mainGlobals:=fun q=>by
          obtain⟨o,es,ep,e,hd,_⟩:=hns;rw[q,e] at b3;cases b3
          rw[hd] at b6;cases b6
        have nP:bm≠CA K (p K).1:=fun q=>by
          rw[q,hTp] at b3;cases b3
          cases b6
        refine⟨bm,ob,b1,b2,nG,nP,base_of b3 (noD b3 (fun vs n z=>?_) fun z=>?_),b4,b5,b6⟩
        . rw[b6] at z
          cases z
        . rw[b6] at z
          cases z
      . obtain⟨o,es,ep,e,hd,_⟩:=hns
        rw[z,hTp] at e;cases e
        cases hd
    have e0:Env0 P w K mg (hidT s₁.heap H) callerA [] s₁ H:=⟨rfl,hM,fun b o e=>of_hidT e,Nat.le_of_eq (hidT_size _ _),trivial,fun b hb=>absurd (show b∈([]:List Addr) from hb) (by simp),hok,.of_eq hg⟩
    obtain⟨kp,dl,fd,ps,Fo,hbd⟩:=D _ hKb (nsK hns) TB;obtain⟨h',hF⟩:=hF
    have rh:RH w K mg (fun _=>a) H [O.fro (ns.map U.int)]:=by
      refine⟨fun i o e=>?_,fun i j o o' e e' f f' q=>?_,fun p hp=>LamX.TabS.nil (hH _ (memT p hp))⟩
      . cases i with
        | zero=>
          cases e
          refine⟨_,hS,?_⟩
          clear hF hS hi lenV rv hl ha
          induction ns with
          | nil=>simp only[List.map_nil,a5]
          | cons z zs ih=>simp only[List.map_cons,a5,RU];exact⟨_,_,rfl,rfl,ih⟩
        | succ i=>cases e
      . cases i with
        | zero=>cases e;cases f
        | succ i=>cases e
    have sp:Hi w K mg 1 F [.ref a] H (fun v _=>v=.bl true) (fun _ _ _=>False):=by
      refine⟨rfl,[.ref 0],[O.fro (ns.map U.int)],fun _=>a,by simp only[a5,RU];exact⟨_,_,rfl,⟨Nat.zero_lt_one,rfl⟩,rfl⟩,rh,?_⟩
      rw[hF];intro v m' H' p r _;simpa only[RU] using r
    have hl1:([Value.ref a]++([]:List Value)).length=ps.length:=by rw[<- Fo.len _ _ _ _ sp];rfl
    refine codeAny_mono (Fo.run callerA [] s₁ H ⟨[.ref a],[]⟩ [.ref a] [.ref a] _ _ rfl hr e0 (hbd s₁ [.ref a] KX hl1) (.cons rfl .nil) sp) fun r s' h=>?_
    cases r with
    | error e=>
      obtain⟨a,B,H',cls,d,_,_,_,_,_,_,_,z⟩:=(show CX P w [] H s₁ (fun _ _ _=>False) e s' from h)
      exact z.elim
    | ok fl=>
      cases fl with
      | next=>exact False.elim h
      | brk=>exact False.elim h
      | cont=>exact False.elim h
      | ret u=>
        obtain⟨v,H',os,bare,un,hok',r',q⟩:=h;have q':v=.bl true:=q;subst q';obtain rfl:u=Value.bool true:=r'
        have key:∀ b o,b ∉ fE K->s₁.heap.get? b=some o->s'.heap.get? b=some o:=fun b o nb e=>by
          cases q:H b with
          | none=>exact un.keep b o e q (by intro z;exact absurd (show b∈([]:List Addr) from z) (by simp)) (by simp)
          | some u=>
            rcases hO b with z | z | ⟨ob,xs,z⟩
            . rw[q] at z;cases z
            . exact absurd z nb
            . have z2:=un.frzs b ob _ z
              obtain⟨e1,_⟩:=hok b _ z;obtain⟨e2,_⟩:=hok' b _ z2;rw[e] at e1;cases e1
              exact e2
        have grown:∀ b∈fE K,∃ more:Array Value,s'.heap.get? b=some { cls:=.none,data:=.fields more }:=fun b hb=>by
          obtain⟨more,z⟩:=un.tbls b #[] (hH b hb);exact⟨_,hok' b _ z⟩
        refine⟨rfl,⟨fun b o e=>?_,fun b o e=>?_⟩,os,bare⟩
        . by_cases hb:b∈fE K
          . obtain⟨p,hp,ep⟩:=List.mem_map.mp hb
            obtain⟨more,hm⟩:=grown b hb;rw[isT b hb] at e;cases e
            rw[<- ep] at hm ⊢;exact .inr (.inl ⟨((T p hp).hd.tab (T p hp).tb).isCodeTable,rfl,#[],more,rfl,by rw[Array.empty_append];exact hm⟩)
          . exact .inl (key b o hb e)
        . by_cases hb:b∈fE K
          . obtain⟨more,hm⟩:=grown b hb
            exact⟨_,hm⟩
          . exact⟨o,key b o hb e⟩
  cases hk:K.lookup a with
  | some o=>
    have e:=KX a o hk;rw[ha] at e;cases e
    refine core (fun b=>if b∈fE K then some (.tbl #[]) else none) (fun b hb=>if_pos hb) (fun b=>?_) (.inr ⟨_,vs.toArray,_,hk,rfl,rfl,rfl,by rw[List.size_toArray,lenV];exact hl,by simpa using rv⟩) (fun b u z=>?_) (fun b z=>?_) fun z=>absurd (show(if a∈fE K then some (HO.tbl #[]) else none)=none from if_neg aT) z
    . by_cases hb:b∈fE K
      . exact .inr (.inl hb)
      . exact .inl (if_neg hb)
    . by_cases hb:b∈fE K
      . have z':=(if_pos hb).symm.trans z
        cases z'
        exact isT b hb
      . have z':=(if_neg hb).symm.trans z
        cases z'
    . by_cases hb:b∈fE K
      . exact .inr hb
      . exact absurd (if_neg hb) z
  | none=>
    refine core (fun b=>if b=a then some (.frz { cls:=.type "list",data:=.seq vs.toArray } (.lst (ns.map V.int))) else if b∈fE K then some (.tbl #[]) else none) (fun b hb=>(if_neg (show ¬ b=a from fun z=>aT (by rw[<- z];exact hb))).trans (if_pos hb)) (fun b=>?_)
      (.inl ⟨{ cls:=.type "list",data:=.seq vs.toArray },if_pos rfl⟩) (fun b u z=>?_) (fun b z=>?_) fun _=>hk
    . by_cases hb:b=a
      . exact .inr (.inr ⟨_,_,if_pos hb⟩)
      . by_cases hb2:b∈fE K
        . exact .inr (.inl hb2)
        . exact .inl ((if_neg hb).trans (if_neg hb2))
    . by_cases hb:b=a
      . have z':=(if_pos hb).symm.trans z
        cases z'
        subst hb;exact⟨ha,by rw[List.length_map];exact hl,vs,_,rv,ha⟩
      . have z1:=(if_neg hb).symm.trans z
        by_cases hb2:b∈fE K
        . have z':=(if_pos hb2).symm.trans z1
          cases z'
          exact isT b hb2
        . have z':=(if_neg hb2).symm.trans z1
          cases z'
    . by_cases hb:b=a
      . exact .inl hb
      . by_cases hb2:b∈fE K
        . exact .inr hb2
        . exact absurd ((if_neg hb).trans (if_neg hb2)) z
theorem Hx {l:PySem.W.OpenLaw} {n k:Nat} {q:Program} {loose:List Str} {XP:(Str->Option Value)->Heap->Prop} {YP:World->Heap->Prop} {d:DefRec}
    (hn:l.most=some n) (hn2:n<=sizeLine) (hdf:d.params.defaults=[]) (hr:Room k callerA)
    (F:∀ (w:World) (mg:Str->Option Value) (fa:Addr) (h:Heap),YP w h->h.Ns mainGlobals mg->mg d.name=some (.ref fa) ->
      ∃ (K:PySem.W.Frag) (G:Fn),K.In h/\(∀ p∈bo.fs,zU K h (p K).1)/\(∀ base:Heap,K.In base->base.Ns mainGlobals mg->wW K mg base->dA l.prog w K mg base k fa 1 G) /\
        ∀ ns:List Int,ns.length<=n->(∀ z∈ns,Builtin.Int.intBits z<=1048576)->∃ h',G [.ref 0] [.fro (ns.map .int)]=.ok (.bl true) h') :
    PySem.W.WalkO q loose XP YP l.row.toRowW d [] (fun f vs=>PySem.call f vs):=by
  refine Att.attach_callB hn hdf fun w s₀ s₁ mg mb fa o pm cd doc a vs ns G Y ho hd hcd hmg hobj hints hlen hbits hg=>?_
  obtain⟨K,Gf,KX,hT,hD,hF⟩:=F w mg fa _ Y G.T.g hmg;exact yM KX hT G.T.bmain G.T.g G.T.b G.T.builtins G.T.nolimit hg hobj hints (Nat.le_trans hlen hn2) hr hD (hF ns hlen hbits)
end UL

namespace UL
open PySem PySem.Spec PyProof.Rows L2
variable [bo]
abbrev ky:=Program->World->PySem.W.Frag->(Str->Option Value)->Heap->Prop
structure vD (GG:Prop) (X:Cx) (N:List Str) (sc:Scope) (fl:Str->Bool) (Φ:ky):Prop where
  n:X.N=N
  s:X.env.scope=sc
  g:GG
  f:Φ X.prog X.w X.K X.mg X.base
  l:∀ x,fl x=true->X.fn x=true
abbrev In (X:Cx) (N:List Str) (sc:Scope) (fl:Str->Bool) (j:Nat) (Φ:ky):Prop:=vD (Good X j) X N sc fl Φ
theorem vD.blk {X Y:Cx} {N:List Str} {sc scope:Scope} {fl:Str->Bool} {j:Nat} {Φ:ky} (I:In X N sc fl j Φ) (B:sU X scope j Y):In Y N (relS scope sc) (fun x=>scope.names.lookup x == some .cell) j Φ:=
  ⟨B.N.trans I.n,by rw[B.scope,I.s],B.good,by rw[B.prog,B.w,B.K,B.mg,B.base];exact I.f,fun x h=>by rw[B.fn];exact h⟩
structure Lo (X:Cx) (i:Nat) (x:Str):Prop where
  ix:X.N[i]?=some x
  vis:Vis X.env.scope x
  d1:(x == ("__debug__" : Str))=false
  d2:(x == ("__classdict__" : Str))=false
structure So (X:Cx) (i:Nat) (x:Str):Prop where
  ix:X.N[i]?=some x
  loc:Loc X.env.scope x
  fn:X.fn x=true\/X.env.scope.names.lookup x=some .local
structure Go (X:Cx) (x:Str):Prop where
  gl:Gl X x
  d1:(x == ("__debug__" : Str))=false
def JA (X:Cx):List (Nat × Str)->Prop
  | []=>True
  | p::r=>Lo X p.1 p.2/\JA X r
def JJ (X:Cx):List (Nat × Str)->Prop
  | []=>True
  | p::r=>So X p.1 p.2/\JJ X r
def Jy (X:Cx):List Str->Prop
  | []=>True
  | x::r=>Go X x/\Jy X r
def E1 (sc:Scope) (x:Str):Bool:=match sc.names.lookup x with
  | some .local=>true
  | some .cell=>true
  | some .free=>true
  | _=>false
def kindS (sc:Scope) (fl:Str->Bool) (x:Str):Bool:=match sc.names.lookup x with
  | some .local=>true
  | some .cell=>fl x
  | _=>false
def EZ (sc:Scope) (x:Str):Bool:=match sc.names.lookup x with
  | some .globalImplicit=>true
  | _=>false
def J1 (N:List Str) (sc:Scope) (p:Nat × Str):Bool:=decide (N[p.1]?=some p.2) && (E1 sc p.2 && (!(p.2 == ("__debug__" : Str)) && !(p.2 == ("__classdict__" : Str))))
def hU (N:List Str) (sc:Scope) (fl:Str->Bool) (p:Nat × Str):Bool:=decide (N[p.1]?=some p.2) && kindS sc fl p.2
def J0 (sc:Scope) (x:Str):Bool:=EZ sc x && !(x == ("__debug__" : Str))
def chk (N:List Str) (sc:Scope) (fl:Str->Bool) (vs ws:List (Nat × Str)) (gs:List Str):Bool:=vs.all (J1 N sc) && (ws.all (hU N sc fl) && gs.all (J0 sc))
section
variable {GG:Prop} {X:Cx} {N:List Str} {sc:Scope} {fl:Str->Bool} {j:Nat} {Φ:ky}
theorem GR (I:vD GG X N sc fl Φ) {p:Nat × Str} (h:J1 N sc p=true):Lo X p.1 p.2:=by
  obtain⟨h1,h⟩:=He.ba h;obtain⟨h2,h⟩:=He.ba h;obtain⟨h3,h4⟩:=He.ba h;refine⟨by rw[I.n];exact of_decide_eq_true h1,?_,by simpa using h3,by simpa using h4⟩
  rw[I.s];unfold E1 at h2;unfold Vis;split at h2
  . rename_i e;exact .inl e
  . rename_i e;exact .inr (.inl e)
  . rename_i e;exact .inr (.inr e)
  . cases h2
theorem GP (I:vD GG X N sc fl Φ) {p:Nat × Str} (h:hU N sc fl p=true):So X p.1 p.2:=by
  obtain⟨h1,h2⟩:=He.ba h;unfold kindS at h2;split at h2
  . rename_i e
    exact⟨by rw[I.n];exact of_decide_eq_true h1,by rw[I.s];exact .inl e,by rw[I.s];exact .inr e⟩
  . rename_i e
    exact⟨by rw[I.n];exact of_decide_eq_true h1,by rw[I.s];exact .inr e,.inl (I.l _ h2)⟩
  . cases h2
theorem GN (I:vD GG X N sc fl Φ) {x:Str} (h:J0 sc x=true):Go X x:=by
  obtain⟨h1,h2⟩:=He.ba h;refine⟨?_,by simpa using h2⟩
  unfold EZ at h1;show X.env.scope.names.lookup x=some .globalImplicit;rw[I.s];split at h1
  . rename_i e;exact e
  . cases h1
theorem KO (I:vD GG X N sc fl Φ):∀ {vs:List (Nat × Str)},vs.all (J1 N sc)=true->JA X vs
  | [],_=>trivial
  | p::r,h=>by
    rw[List.all_cons] at h;obtain⟨h1,h2⟩:=He.ba h;exact⟨GR I h1,KO I h2⟩
theorem KS (I:vD GG X N sc fl Φ):∀ {vs:List (Nat × Str)},vs.all (hU N sc fl)=true->JJ X vs
  | [],_=>trivial
  | p::r,h=>by
    rw[List.all_cons] at h;obtain⟨h1,h2⟩:=He.ba h;exact⟨GP I h1,KS I h2⟩
theorem KI (I:vD GG X N sc fl Φ):∀ {vs:List Str},vs.all (J0 sc)=true->Jy X vs
  | [],_=>trivial
  | p::r,h=>by
    rw[List.all_cons] at h;obtain⟨h1,h2⟩:=He.ba h;exact⟨GN I h1,KI I h2⟩
theorem vD.all (I:vD GG X N sc fl Φ) (vs ws:List (Nat × Str)) (gs:List Str) (h:chk N sc fl vs ws gs=true):JA X vs/\JJ X ws/\Jy X gs:=by
  obtain⟨h1,h⟩:=He.ba h;obtain⟨h2,h3⟩:=He.ba h;exact⟨KO I h1,KS I h2,KI I h3⟩
def rA (N:List Str) (sc scope:Scope) (own:List (Str × Nat)):Bool:=(match scope.kind with
    | .function=>true
    | _=>false) && (scope.names.all (fun y=>decide (scope.names.lookup y.1=some y.2)) && (own.all (fun p=>decide (N[p.2]?=some p.1)) && (scope.names.all (fun y=>match y.2 with
    | .free=>(match sc.names.lookup y.1 with
      | some .cell=>true
      | some .free=>true
      | _=>false)
    | _=>true) && scope.names.all (fun y=>match y.2 with
    | .local=>own.any (fun p=>decide (p.1=y.1)) || !decide (y.1∈N)
    | .cell=>own.any (fun p=>decide (p.1=y.1)) || !decide (y.1∈N)
    | _=>true))))
theorem lU {GG:Prop} (I:vD GG X N sc fl Φ) {scope:Scope} {own:List (Str × Nat)} (h:rA N sc scope own=true):BlkOk X.N X.env.scope scope own:=by
  obtain⟨h1,h⟩:=He.ba h;obtain⟨h2,h⟩:=He.ba h;obtain⟨h3,h⟩:=He.ba h;obtain⟨h4,h5⟩:=He.ba h
  have own':∀ y:Str,(own.any (fun p=>decide (p.1=y)) || !decide (y∈N))=true->y∈own.map (·.1)\/y ∉ X.N:=fun y z=>by
    rw[Bool.or_eq_true] at z;rcases z with z | z
    . obtain⟨p,hp,e⟩:=List.any_eq_true.mp z
      exact .inl (List.mem_map.mpr ⟨p,hp,of_decide_eq_true e⟩)
    . rw[I.n]
      exact .inr (by simpa using z)
  refine⟨?_,fun y hy=>of_decide_eq_true (List.all_eq_true.mp h2 y hy),fun p hp=>by rw[I.n];exact of_decide_eq_true (List.all_eq_true.mp h3 p hp),fun y hy e=>?_,fun y hy e=>?_⟩
  . split at h1
    . rename_i e;exact e
    . cases h1
  . have z:=List.all_eq_true.mp h4 y hy
    rw[e] at z;dsimp only at z;rw[I.s];split at z
    . rename_i q;exact .inl q
    . rename_i q;exact .inr q
    . cases z
  . have z:=List.all_eq_true.mp h5 y hy
    rcases e with e | e
    . rw[e] at z;exact own' _ z
    . rw[e] at z;exact own' _ z
variable {e a b:Expr} {es:List Expr} {fe fa fb:FE} {pos p2:Pos} {x:Str} {i:Nat}
theorem aq (L:Lo X i x):SE X (.Name x pos) (ah i):=G6 i L.ix L.vis L.d1 L.d2
theorem c4 (S:So X i x) (G:GoodW X):SG X (.Name x pos) (aG i) [i]:=Em i G.nd S.ix S.loc S.fn
theorem eG {pos':Pos} (S:So X i x) (G:GoodW X) (he:SE X e fe) (hs:swapsWith e (some (.Name x pos')) pos.line X.env=pure false:=by rfl):SS X (.Assign [.Name x pos'] e pos) (bf i fe):=Hl i G.nd S.ix S.loc he hs S.fn
theorem Ex {op:Operator} {g:G2} {pos':Pos} (S:So X i x) (G:Good X j) (he:SE X e fe) (ho:JH X op g):SS X (.AugAssign (.Name x pos') op e pos) (mD i g fe):=Hk G S.ix S.loc he ho S.fn
theorem cZ {y:Str} {z:List Nat} (g:Go X x) (hm:∃ t,X.mg x=some (.str y t)) (h:y=S z:=by decide +kernel):SE X (.Name x pos) (cE (.str z)):=Eh g.gl hm h g.d1
theorem IM {f:Addr} (g:Go X x) (hm:X.mg x=some (.ref f)):SE X (.Name x pos) (cE (.glo x)):=G4 g.gl hm g.d1
theorem xY {n:String} (g:Go X x) (hm:X.mg x=none) (hv:bootBuiltins x=some (.type n)) (hn:x≠"__name__" := by decide):SE X (.Name x pos) (cE (.ty n)):=IP g.gl hm hv hn g.d1
def JZ (u:U):Option U:=match u with
  | .int i=>some (.int (-i))
  | _=>none
def kd (fa:FE):FE:=fun su h=>(fa su h).bind fun u h1=>match JZ u with
  | some v=>.ok v h1
  | none=>.bad
theorem oT (ha:SE X a fa):SE X (.UnaryOp .USub a pos) (kd fa):=by
  intro su h σ H m rs rh Q fin;refine da (pe_un un_neg bO) (ha su h σ H m rs rh _ ((Fin.bind (RV:=cW X) fin).imp fun y H1 ⟨u,h1,m1,up1,r1,rh1,fin1⟩=>?_))
  cases u with
  | int i=>
    simp only[cW,RU] at r1;exact⟨i,r1,fin1 (.int (-i)) m1 H1 .refl (by simp only[cW,RU]) rh1⟩
  | _=>exact False.elim fin1
def C2 (sc:Scope):Env:=envOfC "" sc 0 0 .none
theorem wJ {ts:List Expr} {v:Expr} {e1 e2:Env} (h:e1.scope=e2.scope):swappedStores ts v e1=swappedStores ts v e2:=by
  unfold swappedStores Env.kindOf Env.blockKind;rw[h]
theorem vD.Cz {GG:Prop} (I:vD GG X N sc fl Φ) (ts:List Expr) (v:Expr):swappedStores ts v X.env=swappedStores ts v (C2 sc):=wJ I.s
theorem nX {GG:Prop} (I:vD GG X N sc fl Φ) (h:(match sc.names.lookup x with
    | some .local=>true
    | _=>false)=true):X.env.scope.names.lookup x=some .local:=by
  rw[I.s];split at h
  . rename_i e;exact e
  . cases h
theorem vc {k l:Nat} {x y:Str} {fr:FA} {px py pt:Pos} {kt k2 pt2} (I:In X N sc fl j Φ) (S:So X k x) (T:So X l y) (ha:SA X [a,b] fr)
    (hx:(match sc.names.lookup x with
      | some .local=>true
      | _=>false)=true:=by decide +kernel)
    (hy:(match sc.names.lookup y with
      | some .local=>true
      | _=>false)=true:=by decide +kernel)
    (hw:swappedStores [.Tuple [.Name x px,.Name y py] kt pt] (.Tuple [a,b] k2 pt2) (C2 sc)=pure (some [x,y]):=by kernel_rfl)
    (hkl:k≠l:=by decide)
    (hs:swapsWithSole [.Tuple [.Name x px,.Name y py] kt pt] (.Tuple [a,b] k2 pt2) pos.line X.env=pure false:=by rfl):SS X (.Assign [.Tuple [.Name x px,.Name y py] kt pt] (.Tuple [a,b] k2 pt2) pos) (lF k l fr):=
  Ey I.g.calm I.g.nd S.ix T.ix hkl (nX I hx) (nX I hy) ha (by rw[I.Cz];exact hw) hs
theorem Fm {k l n:Nat} {x y z:Str} {c:Expr} {fr:FA} {px py pz pt:Pos} {kt k2 pt2} (I:In X N sc fl j Φ) (S:So X k x) (T:So X l y) (R:So X n z) (ha:SA X [a,b,c] fr)
    (hx:(match sc.names.lookup x with
      | some .local=>true
      | _=>false)=true:=by decide +kernel)
    (hy:(match sc.names.lookup y with
      | some .local=>true
      | _=>false)=true:=by decide +kernel)
    (hz:(match sc.names.lookup z with
      | some .local=>true
      | _=>false)=true:=by decide +kernel)
    (hw:swappedStores [.Tuple [.Name x px,.Name y py,.Name z pz] kt pt] (.Tuple [a,b,c] k2 pt2) (C2 sc)=pure (some [x,y,z]):=by kernel_rfl)
    (h1:k≠l:=by decide) (h2:k≠n:=by decide) (h3:l≠n:=by decide)
    (hs:swapsWithSole [.Tuple [.Name x px,.Name y py,.Name z pz] kt pt] (.Tuple [a,b,c] k2 pt2) pos.line X.env=pure false:=by rfl) :
    SS X (.Assign [.Tuple [.Name x px,.Name y py,.Name z pz] kt pt] (.Tuple [a,b,c] k2 pt2) pos) (qw k l n fr):=
  Ez I.g.calm I.g.nd S.ix T.ix R.ix h1 h2 h3 (nX I hx) (nX I hy) (nX I hz) ha (by rw[I.Cz];exact hw) hs
theorem mi {GG:Prop} {tg:Expr} {g:FG} {ns:List Nat} (I:vD GG X N sc fl Φ) (he:SE X e fe) (hg:SG X tg g ns) (hw:swappedStores [tg] e (C2 sc)=pure none:=by kernel_rfl) (hs:swapsWithSole [tg] e pos.line X.env=pure false:=by rfl)
    (h1:(assignEach [tg] X.env).map (·.2)=[assign tg X.env]:=by rfl):SS X (.Assign [tg] e pos) (dh fe g):=Hj he hg hs (by rw[I.Cz];exact hw) h1
theorem jN {tg iter elt:Expr} {ifs:List Expr} {scope:Scope} {fi:FI} {g:FG} {t:FT} {ns:List Nat} (I:In X N sc fl j Φ) (own:List (Str × Nat)) (hi:wV X tg iter fi)
    (hY:∀ Y,In Y N (relS scope sc) (fun x=>scope.names.lookup x == some .cell) j Φ->SG Y tg g ns/\CH Y ifs t/\SE Y elt fe) (ok:rA N sc scope own=true:=by decide +kernel)
    (hns:∀ i∈ns,i∈own.map (·.2):=by decide) (hs:∀ x,foldedSetIterable iter X.env x=pure x:=by intro _;rfl):SE X (.ListComp elt [⟨tg,iter,ifs,0⟩] scope pos) (bj fi g t fe (own.map (·.2))):=
  Eg I.g (lU I ok) hi (fun Y B=>(hY Y (I.blk B)).1) (fun Y B=>(hY Y (I.blk B)).2.1) (fun Y B=>(hY Y (I.blk B)).2.2) hns hs
theorem Ja {tg iter elt:Expr} {ifs:List Expr} {scope:Scope} {fi:FI} {g:FG} {t:FT} {ns:List Nat} {y:Str} {py spos:Pos} (I:In X N sc fl j Φ) (S:So X i y) (own:List (Str × Nat)) (hi:wV X tg iter fi)
    (hY:∀ Y,In Y N (relS scope sc) (fun x=>scope.names.lookup x == some .cell) j Φ->SG Y tg g ns/\CH Y ifs t/\SE Y elt fe) (ok:rA N sc scope own=true:=by decide +kernel)
    (hy:(match sc.names.lookup y with
      | some .local=>true
      | _=>false)=true:=by decide +kernel)
    (hk:(match sc.kind with
      | .function=>true
      | _=>false)=true:=by decide +kernel) (hl:(py.line == pos.line)=true:=by rfl) (hn:(scope.names.any fun(n,k)=>n == y && (k == .local || k == .cell))=false:=by decide +kernel)
    (hns:∀ i∈ns,i∈own.map (·.2):=by decide) (hs:∀ x,foldedSetIterable iter X.env x=pure x:=by intro _;rfl):SS X (.Assign [.Name y py] (.ListComp elt [⟨tg,iter,ifs,0⟩] scope pos) spos) (bf i (bj fi g t fe (own.map (·.2)))):=by
  have k:X.env.scope.kind=.function:=by
    rw[I.s];split at hk
    . rename_i e;exact e
    . cases hk
  exact wG I.g S.ix (nX I hy) (sw_true k (nX I hy) hl hn) (lU I ok) hi (fun Y B=>(hY Y (I.blk B)).1) (fun Y B=>(hY Y (I.blk B)).2.1) (fun Y B=>(hY Y (I.blk B)).2.2) hns hs
end
theorem cf {P:Program} {w:World} {K:PySem.W.Frag} {mg:Str->Option Value} {base:Heap} {Φ:ky} {x qual:Str} {params:Arguments} {body:List Stmt} {scope:Scope} {dvs:List V} {kws:List (Str × V)} {f:Addr} {N ps:List Str} {k n np:Nat} {fb:FS} (φ:Φ P w K mg base)
    (F:∃ fd,FunD K x qual params body scope dvs kws f fd) (S:FnScope N ps scope) (hn:N.length=n) (hp:ps.length=np)
    (hbody:∀ X:Cx,In X N scope (fun _=>true) k Φ->Top X qual f->zS X body fb):∃ fd,FunD K x qual params body scope dvs kws f fd/\dw P w K mg base (k + 1) f fd ps np (dW n np fb):=by
  obtain⟨fd,F⟩:=F;exact⟨fd,F,FU F S hn hp fun X eP ew eK em eb eN es hfn G T=>hbody X ⟨eN,es,G,by rw[eP,ew,eK,em,eb];exact φ,fun y _=>hfn y⟩ T⟩
end UL

namespace UL
open PySem PySem.Spec PyProof.Rows L2
variable [bo]
theorem all_nil {α:Type} {P:α->Prop}:∀ t∈([]:List α),P t:=fun t h=>by cases h
theorem all_cons {α:Type} {P:α->Prop} {a:α} {l:List α} (h:P a) (hl:∀ t∈l,P t):∀ t∈a::l,P t:=fun t ht=>by
  rcases List.mem_cons.mp ht with e | e
  . rw[e];exact h
  . exact hl t e
section
variable {X:Cx} {j:Nat} {c f m:Str} {A g:Addr} {F:Fn} {k np:Nat}
theorem kB (hc:X.mg c=some (.ref A)) (cl:Cls X.K A) (na:NoAttr X.K A f):CK X j c f .fld:=fun C hC=>by
  rw[hc] at hC;cases hC
  exact⟨cl,na⟩
variable {x:Str} {pos px:Pos} {b:Expr} {fb:FE}
def Hr (l:List (Str × He.Dv)):List (List Nat × Int)->Bool
  | []=>true
  | (z,i)::r=>l.any (fun q=>decide (q.1=S z) && (match q.2 with
    | .int k=>decide (k=i)
    | _=>false)) && Hr l r
theorem yk {l:List (Str × He.Dv)}:∀ {tbl:List (List Nat × Int)},Hr l tbl=true->∀ z i,tbl.lookup z=some i->(S z,He.Dv.int i)∈l
  | [],_,z,i,e=>by cases e
  | (z',i')::r,h,z,i,e=>by
    obtain⟨h1,h2⟩:=He.ba h;simp only[List.lookup] at e;split at e
    . rename_i q
      cases e
      have ez:z=z':=eq_of_beq q;subst ez;obtain⟨p,hp,hq⟩:=List.any_eq_true.mp h1;obtain⟨p1,p2⟩:=p;obtain⟨a,b⟩:=He.ba hq;have ea:p1=S z:=of_decide_eq_true a;subst ea;cases p2 with
      | int k=>
        have eb:=of_decide_eq_true b;rw[<- eb];exact hp
      | _=>cases b
    . exact yk h2 z i e
theorem xZ {tbl:List (List Nat × Int)} {ks:List (Str × He.Dv)} (g:Go X x) (hm:X.mg x=some (.ref (He.ga X.K x))) (D:∃ es n,KDict X.K X.w (He.ga X.K x) es n) (hv:He.valsB X.K (He.ga X.K x) ks=true) (hb:SE X b fb) (ht:Hr ks tbl=true:=by decide +kernel)
    (hs:PlainIx b:=by intro _ _;rfl):SE X (.Subscript (.Name x px) b pos) (o7 tbl fb):=by
  obtain⟨es,n,D⟩:=D;refine G5 g.gl hm D (fun z i e=>?_) hb hs g.d1
  obtain⟨u,hu,ru⟩:=He.valsB_ok hv (yk ht z i e);obtain⟨t,e⟩:=(show ∃ t,u=Value.int i t from ru)
  rw[e] at hu;exact⟨t,hu⟩
end
end UL

namespace UL
open PySem PySem.Spec PyProof.Rows L2
variable [bo]
structure Fu (P:Program) (w:World) (K:PySem.W.Frag) (mg:Str->Option Value) (base:Heap) (k:Nat) (f:Addr) (n:Nat) (ks:List Str) (np:Nat) (gU:List U->List U->List U) (F:Fn):Prop where
  kp:PySem.W.keepIn K (.ref f)=true
  len:∀ us h,us.length≠np->F us h=.bad
  ok:∃ fd ps g gV,CM P w K mg base k f fd ps (Hi w K mg np F)/\KBn K fd ps n ks g gV/\∀ m H N us vs ws zs,us.length=n->ws.length=ks.length->a5 K mg m H N us vs->a5 K mg m H N ws zs->a5 K mg m H N (gU us ws) (gV vs zs)
section
variable {X:Cx} {e:Expr} {es:List Expr} {kws:List Keyword} {fa fk:FA} {F:Fn} {k j np n:Nat} {ks:List Str} {gU:List U->List U->List U} {f:Addr} {x:Str} {p pos:Pos} {nm:Option Str} {kpos:Pos}
abbrev semK (X:Cx) (kws:List Keyword) (σ:Sg) (H:Hp) (Q:List V->Hp->Prop):Prop:=pB (∀ pos pins s,Inv X pins σ H s->wpAny (model X.prog X.w) X.A (evalAll ((backToKw pos (keywordEach kws X.env)).map (·.2))) (AP X pins σ Q) X.xe s)
end
def pick {α:Type} (idx:List Nat) (xs:List α):List α:=idx.filterMap fun i=>xs[i]?
theorem vt:∀ {vs:List V} {us:List Value} (i:Nat),Vals vs us->(vs[i]?=none/\us[i]?=none)\/∃ v u,vs[i]?=some v/\us[i]?=some u/\RelV v u
  | [],_,i,h=>by cases h;exact .inl ⟨by simp,by simp⟩
  | v::vs,_,0,h=>by
    cases h with
    | cons a b=>exact .inr ⟨_,_,rfl,rfl,a⟩
  | v::vs,_,i + 1,h=>by
    cases h with
    | cons a b=>
      rcases vt i b with h | ⟨x,y,h1,h2,h3⟩
      . exact .inl (by simpa using h)
      . exact .inr ⟨x,y,by simpa using h1,by simpa using h2,h3⟩
theorem qY {vs:List V} {us:List Value} (h:Vals vs us):∀ idx:List Nat,Vals (pick idx vs) (pick idx us)
  | []=>.nil
  | i::idx=>by
    have r:=qY h idx;unfold pick at *
    rcases vt i h with ⟨e1,e2⟩ | ⟨v,u,e1,e2,e3⟩
    . rw[List.filterMap_cons,List.filterMap_cons,e1,e2];exact r
    . rw[List.filterMap_cons,List.filterMap_cons,e1,e2];exact .cons e3 r
theorem uW {K:PySem.W.Frag} {mg:Str->Option Value} {m:Nat->Addr} {H:Hp} {n:Nat} {us:List U} {vs:List V} (h:a5 K mg m H n us vs):∀ idx:List Nat,a5 K mg m H n (pick idx us) (pick idx vs)
  | []=>rfl
  | i::idx=>by
    have r:=uW h idx;unfold pick at *
    cases e:us[i]? with
    | some u=>
      obtain⟨v,e2,e3⟩:=h.get e;rw[List.filterMap_cons,List.filterMap_cons,e,e2];exact⟨_,_,rfl,e3,r⟩
    | none=>
      have:vs[i]?=none:=by
        rw[List.getElem?_eq_none_iff] at e ⊢;rw[<- h.length];exact e
      rw[List.filterMap_cons,List.filterMap_cons,e,this];exact r
section
variable {P:Program} {w:World} {K:PySem.W.Frag} {mg:Str->Option Value} {base:Heap} {x qual:Str} {params:Arguments} {body:List Stmt} {scope:Scope} {dvs:List V} {kws:List (Str × V)} {f:Addr} {fd:FuncData} {ps:List Str}
theorem kb0 (F:FunD K x qual params body scope [] kws f fd) (n:Nat) (ks:List Str) (idx:List Nat)
    (h:∀ (kV doc pm:Value) (an:Option Addr) (cdv ct:Value) (us ws:List Value),us.length=n->ws.length=ks.length->bindArgs (PySem.W.fnOf x qual params body scope .none kV doc pm an cdv ct) ⟨us,ks.zip ws⟩=pure (ps.zip (pick idx (us++ws)))):KBn K fd ps n ks (fun us ws=>pick idx (us++ws)) (fun vs zs=>pick idx (vs++zs)):=by
  obtain⟨oc,od,dV,kV,doc,pm,an,cdv,ct,osl,rfl,lk,hcd,hD,hK⟩:=F.ex;rcases hD with ⟨_,rfl⟩ | ⟨e,_⟩
  . exact⟨fun s us ws X l1 l2=>.of_eq (h kV doc pm an cdv ct us ws l1 l2),fun r1 r2=>qY (r1.append r2) idx⟩
  . exact absurd rfl e
end
theorem dw.k {P:Program} {w:World} {K:PySem.W.Frag} {mg:Str->Option Value} {base:Heap} {k:Nat} {f:Addr} {fd:FuncData} {ps ks:List Str} {np nn:Nat} {F:Fn} {g:List Value->List Value->List Value} {gU:List U->List U->List U} {gV:List V->List V->List V} (D:dw P w K mg base k f fd ps np F) (hb:KBn K fd ps nn ks g gV)
    (hr:∀ m H N us vs ws zs,us.length=nn->ws.length=ks.length->a5 K mg m H N us vs->a5 K mg m H N ws zs->a5 K mg m H N (gU us ws) (gV vs zs)):Fu P w K mg base k f nn ks np gU F:=⟨D.kp,D.len,fd,ps,g,gV,D.fn,hb,hr⟩
theorem dw.k0 {P:Program} {w:World} {K:PySem.W.Frag} {mg:Str->Option Value} {base:Heap} {k:Nat} {f:Addr} {fd:FuncData} {ps:List Str} {np:Nat} {F:Fn} {x qual:Str} {params:Arguments} {body:List Stmt} {scope:Scope} {kws:List (Str × V)} (D:dw P w K mg base k f fd ps np F) (Fd:FunD K x qual params body scope [] kws f fd) (nn:Nat) (ks:List Str) (idx:List Nat)
    (h:∀ (kV doc pm:Value) (an:Option Addr) (cdv ct:Value) (us ws:List Value),us.length=nn->ws.length=ks.length->bindArgs (PySem.W.fnOf x qual params body scope .none kV doc pm an cdv ct) ⟨us,ks.zip ws⟩=pure (ps.zip (pick idx (us++ws)))) :
    Fu P w K mg base k f nn ks np (fun us ws=>pick idx (us++ws)) F:=D.k (kb0 Fd nn ks idx h) fun m H N us vs ws zs _ _ r1 r2=>uW (r1.append r2) idx
end UL

namespace UL
section
open PySem PySem.W PySem.Calls PyProof.Rows
structure HJ (B newId initId:String) (bm:List Value):Prop where
  fb:ExcBaseFacts B newId initId bm
  kf:KxsFacts B initId
  sf:StoreFacts B bm "object.__setattr__" "object"
theorem F0:HJ "ValueError" "ValueError.__new__" "ValueError.__init__" HX:=⟨F.excBase_ValueError,kxs_ValueError,F.store_ValueError⟩
theorem FZ:HJ "LookupError" "LookupError.__new__" "LookupError.__init__" HW:=⟨F.excBase_LookupError,kxs_LookupError,F.store_LookupError⟩
theorem FY:HJ "ArithmeticError" "ArithmeticError.__new__" "ArithmeticError.__init__" HV:=⟨F.excBase_ArithmeticError,kxs_ArithmeticError,F.store_ArithmeticError⟩
section
variable {prog:Program} {w:World} {A:Around} {E:Value->Shared->Prop} {h:Heap} {g:Array GenState} {d:Drawn} {t:Nat} {os:OsState} {K:Frag} {B newId i:String} {bm:List Value} {C e u t0:Addr}
theorem C4 {Q:Value->Shared->Prop} (X:K.In h) (FB:ExcBaseFacts B newId i bm) (q:excInitIn K C bm newId=true) (he:h.get? e=some (excObj C t0 none .none)) (hu:h.get? u=some (kxs_mw i e))
    (hq:∀ h' t1,(∀ b o,b≠e->h.get? b=some o->h'.get? b=some o)->h'.get? e=some (excObj C t1 none .none)->Q .none ⟨h',g,d,t,os⟩):wpAny (model prog w) A (call (.ref u) []) Q E ⟨h,g,d,t,os⟩:=by
  obtain⟨nm,N',qn,bs,bm',hdct,sn,sub,ab,col,dd,k0,k1,k2,k3,k5,hC,hT⟩:=excInit_of X q;refine wpAny_call (codeAny_of_tree ?_);show wpAny _ A.in1 (callAny (.ref u) ⟨[],[]⟩) _ _ _;simp only[callAny];refine wpAny_bind (wpAny_load hu ?_);simp only[kxs_mw,show(Value.type "method-wrapper" == Value.type "method" || Value.type "method-wrapper" == Value.type "builtin_function_or_method" || Value.type "method-wrapper" == Value.type "method-wrapper")=true by decide,if_true]
  refine KFB.if_so (by decide) ?_
  refine wpAny_bind (check_bound_init FB.toExcCallFacts hC he rfl ?_);refine wpAny_bind (wpAny_pure (wpAny_pure ?_));refine⟨plainId_quiet FB.init.plain _,codeAny_builtin FB.initEntry ?_⟩;exact exc_init_tree (cls:=.ref C) (t0:=t0) (dv:=none) (c2:=.none) (c3:=.none) (b4:=.bool false) he (Nat.zero_le _) fun h' k e1 _=>hq h' _ k e1
theorem Am {name:Str} {v:Value} {x:Addr} {fv:Array Value} {Q:Unit->Shared->Prop} (SF:StoreFacts B bm "object.__setattr__" "object") (X:K.In h) (hx:h.get? x=some { cls:=.ref C,data:=.fields fv }) (hp:excOver K C bm=true) (ht:takerIn K C name=some none) (hh:hasDictIn K C=true)
    (hs:findIn K (.ref C) "__setattr__" = some (some (.builtin "object.__setattr__")))
    (hq:∀ h' tk' dx,(∀ b o,b≠x->h.get? b=some o->h'.get? b=some o)->h.objs.size<=dx->dx≠x->h'.get? x=some { cls:=.ref C,dict:=some dx,data:=.fields fv }->h'.Ns1 dx (fun y=>if y=name then some v else none)->Q () ⟨h',g,d,tk',os⟩) :
    wpAny (model prog w) A (setAttr (.ref x) name v) Q E ⟨h,g,d,t,os⟩:=by
  have hxs:x≠h.objs.size:=Nat.ne_of_lt (Heap.lt_size hx);refine set_plain X (ox:={ cls:=.ref C,data:=.fields fv }) (od:=none) ⟨hx,rfl,rfl,trivial⟩ hs (osa_openX (od:=none) SF X ⟨hx,rfl,rfl,trivial⟩ hp ht fun b=>?_)
  obtain⟨cd,hc,hd'⟩:=any_some hh;have hcls:Looks (model prog w) h (classData C) cd:=looks_clsIn X hc;obtain⟨nm,bs,mro,ns,qn,hd,sn,sb,ab,col,del⟩:=cd;dsimp only at hd';subst hd';show wpAny _ _ (Builtin.ObjectAttr.storeInOwnDict (.ref x) (.ref C) (.str name t) name v b) _ _ _;unfold Builtin.ObjectAttr.storeInOwnDict Builtin.ObjectAttr.ownDictForStores
  repeat (first | with_reducible refine HandSPX.store_in_new ?_ ?_ | with_reducible refine wpAny_loadPart_at hx ?_ | with_reducible refine hcls.at ?_ | wp_step)
  . exact⟨_,#[],_,(Heap.get?_update_ne _ _ _ _ hxs.symm).trans (Heap.get?_push_at rfl rfl),rfl,fun e he=>absurd he (by simp),fun _=>rfl⟩
  . intro h' tk' hn' hs
    have hx₁:(h.push { cls:=.type "dict",data:=.dict #[] }).get? x=some { cls:=.ref C,data:=.fields fv }:=Heap.get?_push_of_some _ hx
    refine hq h' tk' h.objs.size (fun b o hb ho=>?_) (Nat.le_refl _) hxs.symm ?_ hn'
    . exact(hs.2 b (Nat.ne_of_lt (Heap.lt_size ho))).trans ((Heap.get?_update_ne _ _ _ _ hb).trans (Heap.get?_push_of_some _ ho))
    . exact(hs.2 x hxs).trans (Heap.get?_update_self _ hx₁ rfl)
end
section
variable {P:Program} {w:World} {A:Around} {R:Result->Shared->Prop} {s:Shared} {K:Frag} {mg:Str->Option Value} {B newId i:String} {bm:List Value} {C e t0 fI cc cda:Addr} {ps:List Str}
structure HK (P:Program) (K:Frag) (mg:Str->Option Value) (C:Addr) (ps:List Str) (B newId i:String) (bm:List Value) (fI cc cda:Addr) (fd:FuncData) (ss:List Stmt) (scope:Scope) (qual:Str):Prop where
  exb:HJ B newId i bm
  inI:excInitIn K C bm newId=true
  ov:excOver K C bm=true
  sup:ks_superIn K C C "__init__" = some (some (.builtin i))
  subB:subIn K (.ref C) (.type B)=some true
  self_:mroIn K C (.ref C)=some true
  st:nsIn K cStatics "thirdparty.any" = some none
  sa:findIn K (.ref C) "__setattr__" = some (some (.builtin "object.__setattr__"))
  hd:hasDictIn K C=true
  tk:∀ f∈ps,takerIn K C f=some none
  fnd:∃ (oc:Value) (od:Option Addr) (osl:Array (Option Value)) (params:Arguments) (dV kV doc pm ct:Value) (an:Option Addr) (p0 p1 p2 p3 p4:Pos) (ar:Arg),K.lookup fI=some ⟨oc,od,.func fd,osl⟩ /\
    fd=ksFn "__init__" qual params (.Expr (.Call (.Attribute (.Call (.Name "super" p0) [] [] p1) "__init__" p2) [] [] p3) p4::ss) scope dV kV doc pm an (.ref cda) ct cc /\
    codeIn K (.ref cda) qual=true/\(params.posonlyargs++params.args).head?=some ar/\ar.arg = "self"/\(∀ (self:Value) (us:List Value),us.length=ps.length->bindArgs fd ⟨self::us,[]⟩=pure ((("self" : Str),self)::ps.zip us)) /\
    (∀ env:Env,∃ pl:Sem Bool,eval (.Call (.Attribute (.Call (.Name "super" p0) [] [] p1) "__init__" p2) [] [] p3) env=(do
      let ov <- attributeBase (.Call (.Name "super" p0) [] [] p1) "__init__" env (eval (.Call (.Name "super" p0) [] [] p1) env)
      standAt p2.atName
      let (f,first) <- holding [ov] (getMethod ov "__init__" pl)
      callWith p3 f first (backTo p3 (starEach [] env)) []))
  code:∃ (ccl:Value) (cdd:Option Addr) (ccs:Array (Option Value)) (vs:Array Value) (file:Str) (tf:Tok),K.lookup cda=some ⟨ccl,cdd,.fields vs,ccs⟩/\vs[2]?=some (.str file tf)/\((P.main.file:Str) == file)=true
  cell:∃ (cl:Value) (cld:Option Addr) (csl:Array (Option Value)),K.lookup cc=some ⟨cl,cld,.cell (some (.ref C)),csl⟩
  top:(P.main.scope.names.lookup ("super" : Str)).isSome=false
  ms:mg "super" = none
  kind:scope.kind=.function
  co:scope.isCoroutine=false
  gen:scope.isGenerator=false
  nocell:∀ x∈scope.names,x.2≠.cell
  loc:∀ f∈("self" : Str)::ps,scope.names.lookup f=some .local
  nd:(("self" : Str)::ps).Nodup
  dbg:∀ f∈ps,(f == ("__debug__" : Str))=false
  lsup:scope.names.lookup ("super" : Str)=some .globalImplicit
  lcls:scope.names.lookup ("__class__" : Str)=some .free
theorem i6 {x:Str}:∀ {l:List (Str × Value)},(l.map (·.1)).Nodup->l.reverse.lookup x=l.lookup x
  | [],_=>rfl
  | p::r,nd=>by
    rw[List.map_cons,List.nodup_cons] at nd;obtain⟨n,v⟩:=p;rw[List.reverse_cons,List.lookup_append,i6 nd.2]
    by_cases z:x=n
    . subst z
      have hn:r.lookup x=none:=by
        cases q:r.lookup x with
        | none=>rfl
        | some u=>exact absurd (List.mem_map.mpr ⟨_,PySem.mem_of_lookup q,rfl⟩) nd.1
      rw[hn];simp[List.lookup]
    . have e:(x == n)=false:=by simpa using z
      simp[List.lookup,e]
theorem CG {ps:List Str} {us:List Value} (h:us.length=ps.length):(ps.zip us).map (·.1)=ps:=by
  induction ps generalizing us with
  | nil=>rfl
  | cons p ps ih=>cases us with
    | nil=>simp at h
    | cons u us=>simp at h;simp[ih h]
theorem An {fd:FuncData} {ss:List Stmt} {scope:Scope} {qual:Str} {us:List Value} (T:HK P K mg C ps B newId i bm fI cc cda fd ss scope qual) (M:L2.Mod K mg s.heap) (hroom:A.depth < recursionLimit) (hl:us.length=ps.length) (he:s.heap.get? e=some (excObj C t0 none .none))
    (h:∀ h1 tk t1,(∀ b o,b≠e->s.heap.get? b=some o->h1.get? b=some o)->h1.get? e=some (excObj C t1 none .none)->h1.Ns s.heap.objs.size (fun x=>(((("self" : Str),Value.ref e)::ps.zip us:List (Str × Value)).reverse.lookup x)) ->
      wpAny (model P w) (A.deeper (ksEnv qual scope s.heap.objs.size fI (.ref cda) cc)) (execs ss (ksEnv qual scope s.heap.objs.size fI (.ref cda) cc)) (fun f s'=>R (.ok (.ret (match f with | .ret v=>v | _=>.none))) s')
        (fun e s'=>wpAny (model P w) (A.deeper (ksEnv qual scope s.heap.objs.size fI (.ref cda) cc)) (leaving (ksEnv qual scope s.heap.objs.size fI (.ref cda) cc) e) (fun _ s''=>R (.error e) s'') (fun e' s''=>R (.error e') s'') s')
        { s with heap:=h1,toks:=tk }) :
    codeAny (model P w) A (.call (.ref fI) ⟨.ref e::us,[]⟩) R s:=by
  have X:K.In s.heap:=M.kin;obtain⟨oc,od,osl,params,dV,kV,doc,pm,ct,an,p0,p1,p2,p3,p4,ar,lk,efd,hcd,hp,har,hbind,hev⟩:=T.fnd;obtain⟨ccl,cdd,ccs,vs,file,tf,Im,hvs,hfile⟩:=T.code;obtain⟨cl,cld,csl,lkl⟩:=T.cell;obtain⟨mb,hb,hbb⟩:=M.blt;have lself:scope.names.lookup ("self" : Str)=some .local:=T.loc _ (List.mem_cons_self ..);obtain⟨hh,g,d,t,os⟩:=s
  have hcs:∃ cd,clsIn K C=some cd:=by
    obtain⟨cd,hc,_⟩:=any_some T.hd;exact⟨cd,hc⟩
  obtain⟨cd,hcD⟩:=hcs
  obtain⟨oD,hD1,hD2⟩:∃ oD,hh.get? C=some oD/\oD.data=.cls cd:=by
    unfold clsIn at hcD;split at hcD
    . rename_i c d cd' sl ho
      cases hcD
      exact⟨_,X _ _ ho,rfl⟩
    . cases hcD
  have eC:e≠C:=fun z=>by
    rw[z,hD1] at he;cases he
    cases hD2
  subst efd;refine ks_codeAny_call_defAt (binds:=(("self" : Str),Value.ref e)::ps.zip us) hroom (X _ _ lk) rfl M.nolimit (codeRec_of X hcd) rfl (.of_eq (hbind _ _ hl)) T.nocell (fun x hx=>?_) (fun h₀ hns hk=>?_) T.co T.gen T.kind
  . rcases List.mem_cons.mp hx with rfl | hx
    . exact lself
    . obtain⟨n,v⟩:=x
      exact T.loc _ (List.mem_cons_of_mem _ (List.of_mem_zip hx).1)
  have X0:K.In h₀:=X.keeps hk;obtain⟨pl,hev⟩:=hev (ksEnv qual scope hh.objs.size fI (.ref cda) cc)
  have hint:interactive (ksEnv qual scope hh.objs.size fI (.ref cda) cc)=false:=by
    unfold interactive;simp[T.kind]
  refine ks_wpAt_execs_cons (ks_wpAt_Expr_any (hi:=hint) (ks_wpAt_MethodCall (pl:=pl) (he:=hev) (ks_wpAt_super_base (env:=ksEnv qual scope hh.objs.size fI (.ref cda) cc) T.lsup T.lcls (by decide) rfl (X0 _ _ lk) rfl hp rfl (X0 _ _ Im) rfl hvs hfile T.top ?_)))
  refine ks_loadName_global T.kind T.lsup (loadGlobal_builtin (env:=ksEnv qual scope hh.objs.size fI (.ref cda) cc) (M.glob.keeps hk) T.ms (hb.keeps hk) ((hbb _ (by decide +kernel)).trans PyProof.Rows.Boot.«super») ⟨rfl,?_⟩)
  refine wpAny_loadName_free T.kind T.lcls rfl ⟨_,X0 _ _ lkl,rfl⟩ ?_;rw[har]
  have hself:(((("self" : Str),Value.ref e)::ps.zip us:List (Str × Value)).reverse.lookup ("self" : Str))=some (.ref e):=by
    rw[i6 (by rw[List.map_cons,CG hl];exact T.nd)]
    simp[List.lookup]
  refine wpAny_loadName_local T.kind lself hns hself ?_;refine ks_wpAny_isType_cls (hk _ _ hD1) hD2 ⟨rfl,?_⟩;refine ks_wpAny_call_super (hk _ _ hD1) hD2 (hk _ _ he) rfl (fun c z=>by cases z) (looks_mroIn X0 T.self_) (fun h' so k=>?_)
  have X1:K.In h':=X0.keeps k;refine kxs_getMethod T.exb.kf so (looks_opaque X1 T.st) (l₀:=cd.mro) (fun A Q E s k q=>wpAny_bind ((looks_clsIn X1 hcD) A _ E s k (wpAny_pure q))) rfl X1 ?_ ?_ eC (by decide) ?_
  . have z:=T.sup
    unfold ks_superIn at z;rw[hcD] at z;exact z
  . have I:InstAt h' e (excObj C t0 none .none) C none:=⟨k _ _ (hk _ _ he),rfl,rfl,trivial⟩
    exact I.type.andThen (looks_subIn X1 T.subB)
  refine kxs_callWith (i:=i) (x:=e) rfl (evalArgs_empty ⟨Heap.get?_push_at rfl rfl,?_⟩);refine C4 (X1.keeps fun b o z=>Heap.get?_push_of_some _ z) T.exb.fb T.inI (Heap.get?_push_of_some _ (k _ _ (hk _ _ he))) (Heap.get?_push_at rfl rfl) fun h3 t1 k3 e3=>?_
  refine wpAt_of_wpAny (h h3 _ t1 (fun b o hb z=>k3 b o hb (Heap.get?_push_of_some _ (k _ _ (hk _ _ z)))) e3 ?_)
  have hLe:hh.objs.size≠e:=Nat.ne_of_gt (Heap.lt_size he);obtain⟨oL,esL,epL,hoL,rL⟩:=hns;exact⟨oL,esL,epL,k3 _ _ hLe (Heap.get?_push_of_some _ (k _ _ hoL)),rL⟩

theorem FX {fd:FuncData} {f:Str} {p5 p6 p7 p8:Pos} {scope:Scope} {qual:Str} {u:Value} (T:HK P K mg C [f] B newId i bm fI cc cda fd [.Assign [.Attribute (.Name "self" p5) f p6] (.Name f p7) p8] scope qual) (M:L2.Mod K mg s.heap) (hroom:A.depth < recursionLimit) (ne:K.lookup e=none)
    (he:s.heap.get? e=some (excObj C t0 none .none))
    (hq:∀ h' tk dx t1,(∀ b o,b≠e->s.heap.get? b=some o->h'.get? b=some o)->s.heap.objs.size<=dx->dx≠e->h'.get? e=some (excObj C t1 (some dx) .none)->h'.Ns1 dx (fun y=>if y=f then some u else none)->R (.ok (.ret (.ref e))) { s with heap:=h',toks:=tk }) :
    codeAny (model P w) A (.call (.ref fI) ⟨[.ref e,u],[]⟩) (InitBack e R) s:=by
  have lf:scope.names.lookup f=some .local:=T.loc _ (List.mem_cons_of_mem _ (List.mem_cons_self ..));have ls:scope.names.lookup ("self" : Str)=some .local:=T.loc _ (List.mem_cons_self ..);have df:=T.dbg f (List.mem_cons_self ..)
  have nf:f≠("self" : Str):=fun z=>by
    have:=T.nd;rw[z] at this;simp at this
  refine An (us:=[u]) T M hroom rfl he fun h1 tk t1 k1 e1 n1=>?_
  have vs_:((([(("self" : Str),Value.ref e)]++[f].zip [u]:List (Str × Value)).reverse.lookup ("self" : Str)))=some (.ref e):=by
    rw[i6 (by simpa using Ne.symm nf)]
    simp[List.lookup]
  have vf_:((([(("self" : Str),Value.ref e)]++[f].zip [u]:List (Str × Value)).reverse.lookup f))=some u:=by
    have e2:(f == ("self" : Str))=false:=by simpa using nf
    rw[i6 (by simpa using Ne.symm nf)]
    simp[List.lookup,e2]
  refine wpAny_execs_cons (plainObj_wpAny_Assign_Attribute (ESX.ldL n1 vf_ (ESX.ldL n1 vs_ ?_ T.kind ls (by decide)) T.kind lf df) rfl)
  refine Am T.exb.sf (fun b o z=>k1 b o (fun q=>by rw[q,ne] at z;cases z) (M.kin b o z)) e1 T.ov (T.tk f (List.mem_cons_self ..)) T.hd T.sa fun h' tk' dx k2 l2 ne2 e2 n2=>?_
  refine wpAny_execs_nil ⟨rfl,hq h' tk' dx t1 (fun b o hb z=>k2 b o hb (k1 b o hb z)) ?_ ne2 e2 n2⟩
  obtain⟨oL,_,_,hoL,_⟩:=n1;exact Nat.le_trans (Nat.le_of_lt (Heap.lt_size hoL)) l2
end
end
end UL

namespace UL
open PySem PySem.Spec PyProof.Rows L2
variable [bo]
theorem Gy {X:Cx} {pins:List (Addr × Obj)} {σ:Sg} {H:Hp} {s:Shared} (I:Inv X pins σ H s):L2.Mod X.K X.mg s.heap:=
  ⟨I.kIn,I.mod.glob.keeps I.bk,let ⟨mb,h1,h2⟩:=I.mod.blt;⟨mb,h1.keeps I.bk,h2⟩,I.nolimit⟩
structure HA (P:Program) (K:PySem.W.Frag) (mg:Str->Option Value) (C:Addr):Prop where
  ex:PySem.W.subIn K (.ref C) (.type "BaseException")=some true
  ty:PySem.W.typeIn K (.ref C)=some (.type "type")
  kp:PySem.W.keepIn K (.ref C)=true
structure CL (P:Program) (K:PySem.W.Frag) (mg:Str->Option Value) (C:Addr) (f:Str):Prop where
  c:HA P K mg C
  i:∃ B newId ini bm fI cc cda fd p5 p6 p7 p8 scope qual,HK P K mg C [f] B newId ini bm fI cc cda fd [.Assign [.Attribute (.Name "self" p5) f p6] (.Name f p7) p8] scope qual /\
    PySem.W.findIn K (.ref C) "__init__" = some (some (.ref fI))/\PySem.W.typeIn K (.ref fI)=some (.type "function")
structure Ex2 (P:Program) (K:PySem.W.Frag) (mg:Str->Option Value) (C:Addr) (f f':Str):Prop where
  c:HA P K mg C
  i:∃ B newId ini bm fI cc cda fd p5 p6 p7 p8 q5 q6 q7 q8 scope qual,HK P K mg C [f,f'] B newId ini bm fI cc cda fd [.Assign [.Attribute (.Name "self" p5) f p6] (.Name f p7) p8,.Assign [.Attribute (.Name "self" q5) f' q6] (.Name f' q7) q8] scope qual /\
    PySem.W.findIn K (.ref C) "__init__" = some (some (.ref fI))/\PySem.W.typeIn K (.ref fI)=some (.type "function")
structure Ex0 (P:Program) (K:PySem.W.Frag) (mg:Str->Option Value) (C:Addr):Prop where
  c:HA P K mg C
  i:∃ B newId ini bm,ExcBaseFacts B newId ini bm/\PySem.W.excIn K C bm newId=true
section
variable {X:Cx} {C:Addr} {x f:Str} {e:Expr} {p pos:Pos} {j:Nat}
theorem Gx {pins:List (Addr × Obj)} {σ:Sg} {H1:Hp} {hp h':Heap} {g:Array GenState} {dr:Drawn} {tk tk':Nat} {os:OsState} {Q:XK} {a d t1:Addr} {fs:List (Str × V)} {mA:Str->Option Value} (I1:Inv X pins σ H1 ⟨hp,g,dr,tk,os⟩) (c:HA X.prog X.K X.mg C)
    (k:∀ b o,hp.get? b=some o->h'.get? b=some o) (ha:hp.objs.size<=a) (hd:hp.objs.size<=d) (hda:d≠a) (e1:h'.get? a=some (PySem.W.excObj C t1 (some d) .none)) (n:h'.Ns1 d mA) (r:∀ f,RelO (fs.lookup f) (mA f)) (q:Q (.ref C) (some d) (upd H1 d (.xd fs))) :
    MkP X pins σ Q (.ref a) ⟨h',g,dr,tk',os⟩:=by
  obtain⟨G,g1',g2'⟩:=restrict h' fun b=>decide (b≠a)
  have gk:∀ b,b≠a->G.get? b=h'.get? b:=fun b hb=>g1' b (decide_eq_true hb)
  have ge:G.get? a=none:=g2' a (by simp)
  have nha:∀ {b:Addr} {o:Obj},hp.get? b=some o->b≠a:=fun {b o} z=>Nat.ne_of_lt (Nat.lt_of_lt_of_le (Heap.lt_size z) ha)
  have nG:G.Ns1 d mA:=n.at fun o z=>(gk d hda).trans z
  have J:Inv X pins σ (upd H1 d (.xd fs)) ⟨G,g,dr,tk',os⟩:=I1.laid (t':=tk') (a:=d) (o:=.xd fs) (h':=G) (fun b o z=>(gk b (nha z)).trans (k b o z)) hd ⟨mA,nG,r⟩
  refine⟨a,_,_,⟨G,g,dr,tk',os⟩,_,.ref C,some d,rfl,J,fun b o z=>?_,ge,e1,⟨rfl,rfl⟩,rfl,rfl,?_,rfl,I1.bare,raises_own c.ex c.ty,q⟩
  . by_cases hba:b=a
    . rw[hba,ge] at z
      cases z
    . exact(gk b hba).symm.trans z
  . rw[upd_ne (Ne.symm hda)]
    exact I1.hok.fresh ha
theorem DY (G:Good X j) (T:CL X.prog X.K X.mg C f) (hg:Gl X x) (hm:X.mg x=some (.ref C)) (hdb:(x == ("__debug__" : Str))=false:=by decide)
    (he:starEach [e] X.env=(false,eval e X.env)::starEach [] X.env:=by rfl) (hpl:(backTo pos (starEach [] X.env)).any (·.1)=false:=by rfl) :
    PMk X (.Call (.Name x p) [e] [] pos) (fun σ H Q=>B7 X [e] σ H fun vs H1=>∃ v,vs=[v]/\∀ d,H1 d=none->Q (.ref C) (some d) (upd H1 d (.xd [(f,v)]))):=by
  intro pins s σ H Q I h;obtain⟨c,B,newId,ini,bm,fI,cc,cda,fd,p5,p6,p7,p8,scope,qual,T,iC,tI⟩:=T;obtain⟨nm,N',qn,bs,bm',hdct,sn,sub,ab,col,dd,k0,k1,k2,k3,k5,hC,hT⟩:=PySem.W.excInit_of I.kIn T.inI;refine wpAny_Call_Name_kw (ld_glob I hg hm ?_ hdb);refine PySem.W.callWith_K (h₀:=X.base) I.ok.mod.kin c.kp (thn (h.out pos pins s I) fun us s1 ⟨vs,H1,I1,r1,v,ev,q1⟩=>⟨I1.kIn,?_⟩) he hpl
  obtain⟨nm,N',qn,bs,bm',hdct,sn,sub,ab,col,dd,k0,k1,k2,k3,k5,hC,hT⟩:=PySem.W.excInit_of I1.kIn T.inI;subst ev;cases r1 with
  | @cons _ u _ us' ru rn=>
    cases rn
    obtain⟨hp,g,dr,tk,os⟩:=s1;have kk:∀ b o,hp.get? b=some o->((hp.push (PySem.W.kdv_tup [u])).push (PySem.HandSPX.excO C hp.objs.size)).get? b=some o:=fun b o e=>Heap.get?_push_of_some _ (Heap.get?_push_of_some _ e)
    have hget:((hp.push (PySem.W.kdv_tup [u])).push (PySem.HandSPX.excO C hp.objs.size)).get? (hp.objs.size + 1)=some (PySem.HandSPX.excO C hp.objs.size):=by heap_get
    have I2:Inv X pins σ H1 ⟨(hp.push (PySem.W.kdv_tup [u])).push (PySem.HandSPX.excO C hp.objs.size),g,dr,tk,os⟩:=I1.kept (t':=tk) kk
    have hK:X.K.lookup (hp.objs.size + 1)=none:=by
      cases z:X.K.lookup (hp.objs.size + 1) with
      | none=>rfl
      | some o=>exact absurd (Heap.lt_size (I1.kIn _ _ z)) (by show ¬ (hp.objs.size + 1 < hp.objs.size);omega)
    have hroom:(X.A.under (.builtin "type.__call__" ⟨.ref C::[u],[]⟩)).depth < recursionLimit:=by
      rw[make_depth];have:=G.room.dp;omega
    refine wpAny_call (PySem.HandSPX.call_own T.exb.fb hT hC (PySem.W.looks_findIn I1.kIn iC) (fun self=>PySem.W.bind_fn I1.kIn self tI) (by show 1<=sizeLine;rw[sizeLine_eq];omega) ?_)
    refine FX (t0:=hp.objs.size) T (Gy I2) hroom hK hget fun h' tk' dx t1 k l ne e1 n=>?_
    refine Gx I1 c (fun b o z=>k b o (Nat.ne_of_lt (Nat.lt_succ_of_lt (Heap.lt_size z))) (kk b o z)) (Nat.le_succ _) ?_ ne e1 n (fun g=>?_) (q1 dx ?_)
    . rw[Heap.size_push,Heap.size_push] at l
      omega
    . rw[lookup_put]
      by_cases z:g=f
      . rw[if_pos z,if_pos z];exact ru
      . rw[if_neg z,if_neg z];exact True.intro
    . refine I1.hok.fresh ?_
      rw[Heap.size_push,Heap.size_push] at l;show hp.objs.size<=dx;omega
def cO (c f:Str) (fa:FA):FS:=fun su h=>(fa su h).st su fun us h1=>match us with
  | [u]=>.ex c [(f,u)] su h1
  | _=>.bad
theorem gQ {fa:FA} {pos':Pos} (G:Good X j) (T:CL X.prog X.K X.mg C f) (hg:Gl X x) (hm:X.mg x=some (.ref C)) (ha:SA X [e] fa) (hdb:(x == ("__debug__" : Str))=false:=by decide)
    (he:starEach [e] X.env=(false,eval e X.env)::starEach [] X.env:=by rfl) (hpl:(backTo pos (starEach [] X.env)).any (·.1)=false:=by rfl) :
    SS X (.Raise (some (.Call (.Name x p) [e] [] pos)) none pos') (cO x f fa):=by
  intro su h σ H m rs rh D fin;have pm:=DY (pos:=pos) (p:=p) G T hg hm hdb he hpl;unfold cO at fin;cases ef:fa su h with
  | bad=>rw[ef] at fin;exact False.elim fin
  | ex c fs h1=>
    rw[ef] at fin;obtain⟨W,tk,k⟩:=fin;refine eL (ps_raise (W:=W) G.calm tk pm) ?_;refine ha su h σ H m rs rh _ ?_;rw[ef];exact⟨W,tk,fun cls d m' H' p' x' rh'=>k cls d σ m' H' p' (rs.up p') x' rh'⟩
  | ok us h1=>
    rw[ef] at fin
    match us,fin,ef with
    | [],fin,_=>exact False.elim fin
    | [u],fin,ef=>
      obtain⟨W,tk,k⟩:=fin;refine eL (ps_raise (W:=W) G.calm tk pm) ?_;refine ha su h σ H m rs rh _ ?_;rw[ef];intro vs m' H' p' r' rh';simp only[gj,a5] at r';obtain⟨v,_,e1,ru,e2⟩:=r';subst e2 e1;refine⟨v,rfl,fun d hd=>?_⟩
      have u1:=Up.one (K:=X.K) (m:=m') (n:=h1.length) (o:=.xd [(f,v)]) hd;exact k (.ref C) (some d) σ m' _ (p'.trans u1) (rs.up (p'.trans u1)) ⟨⟨C,hm,rfl⟩,.inr ⟨d,[(f,v)],rfl,upd_same,⟨v,[],rfl,RU.up u1 _ _ ru,rfl⟩⟩⟩ (rh'.one hd)
    | _::_::_,fin,_=>exact False.elim fin
end
end UL

namespace UL
open PySem PySem.Spec PyProof.Rows L2
structure Jx (ps:List Str) (x:mI) (ss:List Stmt):Prop where
  body:∃ p0 p1 p2 p3 p4:Pos,x.body=.Expr (.Call (.Attribute (.Call (.Name "super" p0) [] [] p1) "__init__" p2) [] [] p3) p4::ss/\∀ env:Env,∃ pl:Sem Bool,eval (.Call (.Attribute (.Call (.Name "super" p0) [] [] p1) "__init__" p2) [] [] p3) env=(do
      let ov <- attributeBase (.Call (.Name "super" p0) [] [] p1) "__init__" env (eval (.Call (.Name "super" p0) [] [] p1) env)
      standAt p2.atName
      let (f,first) <- holding [ov] (getMethod ov "__init__" pl)
      callWith p3 f first (backTo p3 (starEach [] env)) [])
  head:∃ ar:Arg,(x.params.posonlyargs++x.params.args).head?=some ar/\ar.arg = "self"
  bind:∀ (kV doc pm ct:Value) (an:Option Addr) (cda cc:Addr) (self:Value) (us:List Value),us.length=ps.length->bindArgs (PySem.W.ksFn "__init__" x.qual x.params x.body x.scope .none kV doc pm an (.ref cda) ct cc) ⟨self::us,[]⟩=pure ((("self" : Str),self)::ps.zip us)
  kind:x.scope.kind=.function
  co:x.scope.isCoroutine=false
  gen:x.scope.isGenerator=false
  nocell:∀ y∈x.scope.names,y.2≠.cell
  loc:∀ f∈("self" : Str)::ps,x.scope.names.lookup f=some .local
  nd:(("self" : Str)::ps).Nodup
  dbg:∀ f∈ps,(f == ("__debug__" : Str))=false
  lsup:x.scope.names.lookup ("super" : Str)=some .globalImplicit
  lcls:x.scope.names.lookup ("__class__" : Str)=some .free
theorem Ib (T:zM):HJ T.nm T.newId T.ini T.bm:=match T with
  | .ve=>F0
  | .le=>FZ
  | .ae=>FY
section
variable {P:Program} {K:PySem.W.Frag} {mg:Str->Option Value} {file:Str} {T:zM} {ps:List Str} {x:mI} {ss:List Stmt}
theorem C5 {c:Str} (h:Ia c K=true):HA P K mg (He.ga K c):=by
  obtain⟨h1,h⟩:=He.ba h;obtain⟨h2,h3⟩:=He.ba h;exact⟨of_decide_eq_true h1,of_decide_eq_true h2,h3⟩
theorem FW (h:EU file T ps x K=true) (v:EV K x=x.val) (hP:P.main.file=file) (top:(P.main.scope.names.lookup ("super" : Str)).isSome=false) (ms:mg "super" = none) (S:Jx ps x ss) :
    ∃ cc cda fd,HK P K mg (He.ga K x.c) ps T.nm T.newId T.ini T.bm (F1 K x.c) cc cda fd ss x.scope x.qual/\PySem.W.findIn K (.ref (He.ga K x.c)) "__init__" = some (some (.ref (F1 K x.c)))/\PySem.W.typeIn K (.ref (F1 K x.c))=some (.type "function")/\HA P K mg (He.ga K x.c):=by
  obtain⟨h0,h⟩:=He.ba h;obtain⟨h1,h⟩:=He.ba h;obtain⟨h2,h⟩:=He.ba h;obtain⟨h3,h⟩:=He.ba h;obtain⟨h4,h⟩:=He.ba h;obtain⟨h5,h⟩:=He.ba h;obtain⟨h6,h⟩:=He.ba h;obtain⟨h7,h⟩:=He.ba h;obtain⟨h8,h⟩:=He.ba h;obtain⟨h9,h⟩:=He.ba h;obtain⟨h10,h⟩:=He.ba h;obtain⟨h11,h⟩:=He.ba h;split at h
  . rename_i oc od fd osl lk
    split at h
    . rename_i cda nm cc e1 e2 e3
      obtain⟨k1,h⟩:=He.ba h;obtain⟨k2,k3⟩:=He.ba h;split at k2
      . rename_i ccl cdd vs ccs Im
        split at k2
        . rename_i file' tf hvs
          split at k3
          . rename_i cl cld C csl lkl
            have eC:C=He.ga K x.c:=by simpa using k3
            subst eC;have ef:file=file':=by simpa using k2
            subst ef;unfold EV at v;rw[lk] at v;obtain⟨n1,n2,n3,n4,n5,n6,n7,n8,n9,n10,n11,n12,n13,n14,n15⟩:=fd;dsimp only at e1 e2 e3;subst e1 e2 e3;have v2:(some (n1,n2,n3,n4,n5,n6,[(nm,cc)].map (·.1),n15):zN)=(some (("__init__" : Str),x.qual,x.params,FuncBody.stmts x.body,x.scope,mainGlobals,[("__class__" : Str)],builtinsNs):zN):=v;simp only[List.map_cons,List.map_nil,Option.some.injEq,Prod.mk.injEq,List.cons.injEq,and_true] at v2;obtain⟨g1,g2,g3,g4,g5,g6,g7,g8⟩:=v2;subst g1 g2 g3 g4 g5 g6 g7 g8;obtain⟨p0,p1,p2,p3,p4,eb,ev⟩:=S.body;obtain⟨ar,a1,a2⟩:=S.head;refine⟨cc,cda,PySem.W.ksFn "__init__" x.qual x.params x.body x.scope .none n9 n10 n11 n12 (.ref cda) n14 cc,⟨Ib T,h1,h2,He.eqO_ok h3,of_decide_eq_true h4,of_decide_eq_true h5,Bn h6,He.eqO_ok h7,h8,fun f hf=>Bn (List.all_eq_true.mp h9 f hf),?_,⟨ccl,cdd,ccs,vs,file,tf,Im,hvs,by rw[hP];simp⟩,⟨cl,cld,csl,lkl⟩,top,ms,S.kind,S.co,S.gen,S.nocell,S.loc,S.nd,S.dbg,S.lsup,S.lcls⟩,He.eqO_ok h10,of_decide_eq_true h11,C5 h0⟩
            exact⟨oc,od,osl,x.params,.none,n9,n10,n11,n14,n12,p0,p1,p2,p3,p4,ar,lk,by rw[<- eb],k1,a1,a2,fun self us hl=>S.bind n9 n10 n11 n14 n12 cda cc self us hl,ev⟩
          . cases k3
        . cases k2
      . cases k2
    . cases h
  . cases h
theorem FV {f:Str} {p5 p6 p7 p8:Pos} (h:EU file T [f] x K=true) (v:EV K x=x.val) (hP:P.main.file=file) (top:(P.main.scope.names.lookup ("super" : Str)).isSome=false) (ms:mg "super" = none) (S:Jx [f] x [.Assign [.Attribute (.Name "self" p5) f p6] (.Name f p7) p8]):CL P K mg (He.ga K x.c) f:=by
  obtain⟨cc,cda,fd,I,a,b,c⟩:=FW h v hP top ms S;exact⟨c,_,_,_,_,_,cc,cda,fd,_,_,_,_,_,_,I,a,b⟩
end
end UL

namespace UL
open PySem PySem.Spec PyProof.Rows L2
variable [bo]
theorem vD.tr {X:Cx} {N:List Str} {sc:Scope} {fl:Str->Bool} {j:Nat} {Φ:ky} (I:In X N sc fl j Φ) {pn:List (Addr × Obj)} {xe:Value->Shared->Prop} (pw:PassesOwn (model X.prog X.w) X.A X.env xe):In (X.tr pn xe) N sc fl j Φ:=
  ⟨I.n,I.s,⟨I.g.nd,I.g.calm,pw,I.g.room,I.g.gd⟩,I.f,I.l⟩
section
variable {X:Cx} {N:List Str} {sc:Scope} {fl:Str->Bool} {j:Nat} {Φ:ky} {m m1:Nat->Addr} {H H1:Hp} {h h1:Hm} {D:Ends} {σ:Sg} {su:En} {pn:List (Addr × Obj)}
theorem bY.at {Y:Cx} {r:Fl} (hK:Y.K=X.K) (hm:Y.mg=X.mg) (hw:Y.w=X.w) (hr:∀ c fs su h,r≠.ex c fs su h) (f:bY X m H h r D):bY Y m H h r D:=by
  cases r with
  | nx su h'=>unfold bY;rw[hK,hm,hw];exact f
  | rt u h'=>unfold bY;rw[hK,hm,hw];exact f
  | bk su h'=>unfold bY;rw[hK,hm,hw];exact f
  | ct su h'=>unfold bY;rw[hK,hm,hw];exact f
  | ex c fs su h'=>exact absurd rfl (hr c fs su h')
  | bad=>exact f
variable {x:Str} {cv:Value} {body suite:List Stmt} {b₀:Stmt} {np pos pos':Pos} {fb fh:FS} {tab:List (Str × Bool)} {qual:Str} {f:Addr}
end
end UL

namespace UL
open PySem PySem.Spec PyProof.Rows L2
variable [bo]
section
variable {X:Cx} {e o:Expr} {es:List Expr} {kws:List Keyword} {fa fk fr:FA} {fo:FE} {F:Fn} {k j np n:Nat} {ks:List Str} {gU:List U->List U->List U} {f:Addr} {x:Str} {p pos apos:Pos}
structure MakeK (X:Cx) (j:Nat) (c:Str) (n:Nat) (ks:List Str) (gU:List U->List U->List U) (F:Fn) (C:Addr):Prop where
  mg:X.mg c=some (.ref C)
  made:∃ f k np,Mk X.K C f/\Fu X.prog X.w X.K X.mg X.base k f (n + 1) ks np gU F/\k + 1<=j
end
end UL
namespace UL
open PySem PySem.Spec PyProof.Rows L2
variable [bo]
theorem So.suite {X:Cx} {i:Nat} {x:Str} (S:So X i x) (a:Addr) (pn:List (Addr × Obj)):So (X.suite a pn) i x:=⟨S.ix,S.loc,S.fn⟩
theorem lh {P:Program} {K:PySem.W.Frag} {mg:Str->Option Value} {file:Str} {T:zM} {x:mI} {f:Str} (h:EU file T [f] x K=true) (v:EV K x=x.val) (hP:P.main.file=file) (top:(P.main.scope.names.lookup ("super" : Str)).isSome=false) (ms:mg "super" = none)
    (S:∃ p5 p6 p7 p8,Jx [f] x [.Assign [.Attribute (.Name "self" p5) f p6] (.Name f p7) p8]):CL P K mg (He.ga K x.c) f:=by
  obtain⟨_,_,_,_,S⟩:=S;exact FV h v hP top ms S
end UL

namespace ULZ
open PySem
open PySem.Sem (wp)
section
variable {prog:Program} {w:World} {A:Around} {E:Value->Shared->Prop} {s:Shared}
end
abbrev CC (h:Heap) (l1:Addr):Heap:=h.push { cls:=.type "tuple_iterator",data:=.fields #[.ref l1,.int 0 0] }
abbrev CD (h:Heap) (l1 l2:Addr):Heap:=(CC h l1).push { cls:=.type "list_iterator",data:=.fields #[.ref l2,.int 0 0] }
abbrev CF (h:Heap) (l1 l2:Addr):Heap:=(CD h l1 l2).push { cls:=.type "tuple",data:=.seq #[.ref h.objs.size,.ref (CC h l1).objs.size] }
abbrev Hz (h:Heap) (l1 l2:Addr):Heap:=(CF h l1 l2).push { cls:=.type "tuple",data:=.seq #[.none,.none] }
abbrev zipMH5 (h:Heap) (l1 l2:Addr):Heap:=(Hz h l1 l2).push { cls:=.type "zip",data:=.fields #[.none,.bool false,.bool false,.ref (CD h l1 l2).objs.size,.ref (CF h l1 l2).objs.size] }
section
variable {prog:Program} {w:World} {A:Around} {E:Value->Shared->Prop} {s:Shared}
end
open PySem.Spec PyProof.Rows L2
end ULZ
namespace UL
open PySem PySem.Spec PyProof.Rows L2
variable [bo]
section
variable {X:Cx} {e l:Expr} {fa:FA} {p pos:Pos}
def Hy (fa:FA):FI:=fun su h=>(fa su h).bind fun us h1=>match us with
  | [.tup ws,.tup zs]=>.ok (Cr (.tup ws) (.tup zs)) h1
  | [.tup ws,.ref r]=>if km (.ref r) h1=true then .ok (Cr (.tup ws) (.ref r)) h1 else .bad
  | _=>.bad
end
end UL

namespace UL
open PySem PySem.Spec PyProof.Rows L2
variable [bo]
structure IsE (a:Addr) (cls:Value) (d:Option Addr) (p:Addr × Obj):Prop where
  at_:p.1=a
  zc:Zc cls d p.2
  fs:∃ vs,p.2.data=.fields vs
structure FnX (P:Program) (w:World) (K:PySem.W.Frag) (mg:Str->Option Value) (base:Heap) (k:Nat) (f:Addr) (fd:FuncData) (ps:List Str) (a:Addr) (cls:Value) (d:Option Addr) (sp:Sp):Prop where
  len:∀ vs H Q E,sp vs H Q E->vs.length=ps.length
  run:∀ (A:Around) (outer:List Env) (s:Shared) (H:Hp) (args:Args) (us:List Value) (vs:List V) (Q:VK) (E:XK) (p:Addr × Obj),IsE a cls d p->A.guards=some []->L2H.RoomH k A->L2H.PinOk outer H s p->Env0 P w K mg base A outer s H->BindsTo s fd args (ps.zip us)->Vals vs us->sp vs H Q E ->
    codeAny (model P w) A (.call (.ref f) args) (CR (CX P w) outer P w H s Q E) s
structure DefX (P:Program) (w:World) (K:PySem.W.Frag) (mg:Str->Option Value) (base:Heap) (k:Nat) (f:Addr) (np:Nat) (a:Addr) (cls:Value) (d:Option Addr) (F:Fn):Prop where
  kp:PySem.W.keepIn K (.ref f)=true
  len:∀ us h,us.length≠np->F us h=.bad
  ok:∃ fd ps,FnX P w K mg base k f fd ps a cls d (Hi w K mg np F)/\Binds K fd ps []
section
variable {X:Cx} {e:Expr} {es:List Expr} {fa:FA} {F:Fn} {k np:Nat} {f a:Addr} {cls:Value} {d:Option Addr} {x:Str} {p pos:Pos}
end
end UL

namespace UL
open PySem PySem.Spec PyProof.Rows L2
variable [bo]
structure IsxC (K:PySem.W.Frag) (mg:Str->Option Value) (D:Addr) (tc:List (Str × Bool)) (tt:List (String × Bool)) (fs:List Str):Prop where
  cl:(PySem.W.clsIn K D).isSome=true
  x:XfC K D
  ha:PySem.W.findIn K (.ref D) "__class__" = some (some (.builtin "object.__class__"))
  hn:PySem.W.specialIn K (.builtin "object.__class__") "__get__" = some (some (.builtin "getset_descriptor.__get__"))
  ht:PySem.W.takesIn K (.builtin "object.__class__")=some true
  hm:PySem.W.mroIn K D (.type "object")=some true
  tc:∀ t∈tc,∃ C,mg t.1=some (.ref C)/\PySem.W.kitOne K (.ref D) (.ref C)=some t.2
  tt:∀ t∈tt,PySem.W.kitOne K (.ref D) (.type t.1)=some t.2
  no:∀ f∈fs,PySem.W.findIn K (.ref D) f=some none
def KQ (d:Option (Addr × Nat)) (h:Hm):Bool:=match d with
  | none=>true
  | some (dd,i)=>match h[i]? with
    | some (.exd d' _)=>d' == dd
    | _=>false
section
variable {X:Cx} {a D:Addr} {d:Option (Addr × Nat)} {tc:List (Str × Bool)} {tt:List (String × Bool)} {fs:List Str}
theorem ja.look {K:PySem.W.Frag} {mg:Str->Option Value} {m:Nat->Addr} {H:Hp} {n:Nat} {f:Str} {u:U}:∀ {us:List (Str × U)} {vs:List (Str × V)},ja K mg m H n us vs->us.lookup f=some u->∃ v,vs.lookup f=some v/\RU K mg m H n u v
  | [],_,_,e=>by cases e
  | (g,w)::us,_,h,e=>by
    obtain⟨v,r,e',h1,h2⟩:=h;subst e';rw[List.lookup] at e ⊢;split at e
    . cases e;exact⟨v,rfl,h1⟩
    . exact ja.look h2 e
end
end UL

namespace UL
open PySem PySem.Spec PyProof.Rows L2
variable [bo]
section
variable {X:Cx} {x1 x2 x3 n:Str} {c1 c2 c3:Value} {i:Nat} {body suite:List Stmt} {b₀:Stmt} {p1 p2 p3 tpos pos pos':Pos} {kk:Nat} {tb:WX->TS} {ts:Addr->Value->Option Addr->TS}
end
end UL

namespace UL
open PySem PySem.Spec PyProof.Rows L2 LamX
variable [bo]
section
variable {X:Cx} {pins:List (Addr × Obj)} {σ:Sg} {H HZ:Hp} {s s1:Shared}
abbrev cxT (X:Cx) (Ng:List Str) (x:Str) (sg:Scope) (g:Addr) (cdg:Value) (s:Shared) (H:Hp):Cx:=cxOf (CX X.prog X.w) X.prog X.w X.K X.mg X.base Ng x sg g cdg X.A X.stack s H (fun _ _ _=>False)
end
end UL

namespace UL
open PySem PySem.Spec PyProof.Rows L2 LamX
variable [bo]
section
variable {W0:World} {K:PySem.W.Frag} {mg:Str->Option Value} {m m':Nat->Addr} {H H':Hp} {n n':Nat}
mutual
theorem RU.lt:∀ {u:U} {v v':V},RU K mg m H n u v->RU K mg m' H' n' u v'->RU K mg m' H' n u v'
  | .non,_,_,_,h=>by simpa only[RU] using h
  | .bl _,_,_,_,h=>by simpa only[RU] using h
  | .int _,_,_,_,h=>by simpa only[RU] using h
  | .str _,_,_,_,h=>by simpa only[RU] using h
  | .ty _,_,_,_,h=>by simpa only[RU] using h
  | .glo _,_,_,_,h=>by simpa only[RU] using h
  | .ref i,_,_,h0,h=>by simp only[RU] at *;exact⟨h0.1,h.2⟩
  | .tup us,_,_,h0,h=>by
    simp only[RU] at *
    obtain⟨a0,xs0,e0,t0,r0⟩:=h0;obtain⟨a,xs,e,t,r⟩:=h;exact⟨a,xs,e,t,a5.lt r0 r⟩
  | .adr _,_,_,_,h=>by simpa only[RU] using h
theorem a5.lt:∀ {us:List U} {vs vs':List V},a5 K mg m H n us vs->a5 K mg m' H' n' us vs'->a5 K mg m' H' n us vs'
  | [],_,_,_,h=>by simpa only[a5] using h
  | u::us,_,_,h0,h=>by
    simp only[a5] at *
    obtain⟨v0,r0,e0,h1,h2⟩:=h0;obtain⟨v,r,e,k1,k2⟩:=h;exact⟨v,r,e,RU.lt h1 k1,a5.lt h2 k2⟩
end
theorem ja.lt:∀ {us:List (Str × U)} {vs vs':List (Str × V)},ja K mg m H n us vs->ja K mg m' H' n' us vs'->ja K mg m' H' n us vs'
  | [],_,_,_,h=>h
  | (f,u)::us,_,_,h0,h=>by
    obtain⟨v0,r0,e0,h1,h2⟩:=h0;obtain⟨v,r,e,k1,k2⟩:=h;exact⟨v,r,e,RU.lt h1 k1,ja.lt h2 k2⟩
theorem fU.lt:∀ {us:List (U × U)} {vs vs':List (Key × V)},fU K mg m H n us vs->fU K mg m' H' n' us vs'->fU K mg m' H' n us vs'
  | [],_,_,_,h=>h
  | (k,u)::us,_,_,h0,h=>by
    obtain⟨q0,v0,r0,e0,hk0,h1,h2⟩:=h0;obtain⟨q,v,r,e,hk,k1,k2⟩:=h;exact⟨q,v,r,e,hk,RU.lt h1 k1,fU.lt h2 k2⟩
theorem gz.lt:∀ {us:List (U × U)} {xs ys:List gi},gz K mg m H n us xs->gz K mg m' H' n' us ys->gz K mg m' H' n us ys
  | [],_,_,_,h=>h
  | (k,u)::us,_,_,h0,h=>by
    obtain⟨q0,b0,v0,r0,e0,hk0,h1,⟨y0,_,h2⟩,h3⟩:=h0;obtain⟨q,b,v,r,e,hk,k1,⟨y,ry,k2⟩,k3⟩:=h;exact⟨q,b,v,r,e,hk,RU.lt h1 k1,⟨y,ry,RU.lt h2 k2⟩,gz.lt h3 k3⟩
theorem RO.lt {o:O} {a a':Addr} (h0:RO W0 K mg m H n o a) (h:RO W0 K mg m' H' n' o a'):RO W0 K mg m' H' n o a':=by
  cases o with
  | lst us=>obtain⟨_,_,r0⟩:=h0;obtain⟨xs,e,r⟩:=h;exact⟨xs,e,a5.lt r0 r⟩
  | fro us=>obtain⟨_,_,r0⟩:=h0;obtain⟨xs,e,r⟩:=h;exact⟨xs,e,a5.lt r0 r⟩
  | cq kvs=>obtain⟨_,_,r0⟩:=h0;obtain⟨xs,e,r⟩:=h;exact⟨xs,e,fU.lt r0 r⟩
  | dN kvs=>obtain⟨_,_,_,_,_,_,_,_,r0⟩:=h0;obtain⟨e1,e2,xs,es,ep,e,e3,e4,r⟩:=h;exact⟨e1,e2,xs,es,ep,e,e3,e4,gz.lt r0 r⟩
  | ins c fs=>obtain⟨_,_,_,_,_,r0⟩:=h0;obtain⟨C,dx,vs,hc,e,r⟩:=h;exact⟨C,dx,vs,hc,e,ja.lt r0 r⟩
  | exd d fs=>obtain⟨_,_,_,r0⟩:=h0;obtain⟨ed,vs,e,r⟩:=h;exact⟨ed,vs,e,ja.lt r0 r⟩
  | dL kvs=>obtain⟨_,_,_,r0⟩:=h0;obtain⟨ed,vs,e,r⟩:=h;exact⟨ed,vs,e,fU.lt r0 r⟩
theorem RH.cut {h h':Hm} (r0:RH W0 K mg m H h) (r:RH W0 K mg m' H' h') (hk:∀ i,i < h.length->h'[i]?=h[i]?):RH W0 K mg m' H' h:=
  ⟨fun i o e=>by
    have e':h'[i]?=some o:=(hk i (gEsZ.mp e).1).trans e;exact RO.lt (r0.at_ i o e) (r.at_ i o e'),fun i j o o' e1 e2 f1 f2 q=>r.inj i j o o' ((hk i (gEsZ.mp e1).1).trans e1) ((hk j (gEsZ.mp e2).1).trans e2) f1 f2 q,r.tabs⟩
theorem RH.pick {h h':Hm} {o:O} {j:Nat} (r0:RH W0 K mg m H h) (r:RH W0 K mg m' H' h') (hk:∀ i,i < h.length->h'[i]?=h[i]?) (hj:h'[j]?=some o) (hl:h.length<=j) (new:RO W0 K mg (ext m' h.length (m' j)) H' (h.length + 1) o (m' j)):RH W0 K mg (ext m' h.length (m' j)) H' (h++[o]):=by
  have c:=r0.cut r hk
  have key:∀ {i:Nat} {x:O},(h++[o])[i]?=some x->(i < h.length/\h[i]?=some x)\/(i=h.length/\x=o):=fun {i x} e=>by
    by_cases hi:i < h.length
    . rw[List.getElem?_append_left hi] at e;exact .inl ⟨hi,e⟩
    . rw[List.getElem?_append_right (by omega)] at e
      have:i - h.length=0:=by
        cases q:i - h.length with
        | zero=>rfl
        | succ k=>rw[q] at e;simp at e
      rw[this] at e;simp at e;exact .inr ⟨by omega,e.symm⟩
  have up:Up K m' H' h.length (ext m' h.length (m' j)) H' (h.length + 1):=⟨Nat.le_succ _,fun i hi=>dM hi,fun _ _ t=>t,fun _ _ _ e=>e⟩
  have big:∀ {i:Nat} {x:O},i < h.length->h[i]?=some x->h'[i]?=some x:=fun {i x} hi e=>(hk i hi).trans e
  refine⟨fun i x e=>?_,fun i k x y e e' f f' q=>?_,c.tabs⟩
  . rw[List.length_append,List.length_singleton]
    rcases key e with ⟨hi,e⟩ | ⟨hi,e'⟩
    . rw[dM hi]
      exact(c.at_ i x e).up up (fun _=>rfl) fun _ _ _ q=>q
    . rw[hi,cX,e'];exact new
  . rcases key e with ⟨hi,ez⟩ | ⟨hi,ez⟩<;>rcases key e' with ⟨hk',ey⟩ | ⟨hk',ey⟩
    . rw[dM hi,dM hk'] at q;exact c.inj i k x y ez ey f f' q
    . subst hk'
      rw[dM hi,cX] at q;have:=r.inj i j x o (big hi ez) hj f (by rw[<- ey];exact f') q
      omega
    . subst hi
      rw[dM hk',cX] at q;have:=r.inj k j y o (big hk' ey) hj f' (by rw[<- ez];exact f) q.symm
      omega
    . omega
theorem RH.exd {h:Hm} {d:Addr} {fs:List (Str × U)} {vs:List (Str × V)} (r:RH W0 K mg m H h) (e:H d=some (.xd vs)) (rf:ja K mg m H h.length fs vs):RH W0 K mg (ext m h.length d) H (h++[.exd d fs]):=by
  have key:∀ {i:Nat} {x:O},(h++[O.exd d fs])[i]?=some x->(i < h.length/\h[i]?=some x)\/(i=h.length/\x=.exd d fs):=fun {i x} e=>by
    by_cases hi:i < h.length
    . rw[List.getElem?_append_left hi] at e;exact .inl ⟨hi,e⟩
    . rw[List.getElem?_append_right (by omega)] at e
      have:i - h.length=0:=by
        cases q:i - h.length with
        | zero=>rfl
        | succ k=>rw[q] at e;simp at e
      rw[this] at e;simp at e;exact .inr ⟨by omega,e.symm⟩
  have up:Up K m H h.length (ext m h.length d) H (h.length + 1):=⟨Nat.le_succ _,fun i hi=>dM hi,fun _ _ t=>t,fun _ _ _ e=>e⟩
  refine⟨fun i x e'=>?_,fun i k x y e1 e2 f f' q=>?_,r.tabs⟩
  . rw[List.length_append,List.length_singleton]
    rcases key e' with ⟨hi,e'⟩ | ⟨hi,e'⟩
    . rw[dM hi]
      exact(r.at_ i x e').up up (fun _=>rfl) fun _ _ _ q=>q
    . rw[hi,cX,e'];exact⟨rfl,vs,e,ja.up up _ _ rf⟩
  . rcases key e1 with ⟨hi,e1⟩ | ⟨hi,e1⟩<;>rcases key e2 with ⟨hk',e2⟩ | ⟨hk',e2⟩
    . rw[dM hi,dM hk'] at q;exact r.inj i k x y e1 e2 f f' q
    . rw[e2] at f';cases f'
    . rw[e1] at f;cases f
    . omega
theorem Up.exd {d:Addr}:Up K m H n (ext m n d) H (n + 1):=⟨Nat.le_succ _,fun i hi=>dM hi,fun _ _ t=>t,fun _ _ _ e=>e⟩
end
end UL

namespace UL
open PySem PySem.Spec PyProof.Rows L2 LamX
variable [bo]
structure Fy (h h':Hm):Prop where
  le:h.length<=h'.length
  keep:∀ i,i < h.length->h'[i]?=h[i]?
structure KD where
  c:Str
  say:List (Str × U)->Hm->Option (List U)
  tc:List (Str × Bool)
  tt:List (String × Bool)
section
variable {X:Cx} {j:Nat} {f g:Addr} {x a qual qp:Str} {k n ib ie:Nat} {pg:Arguments} {sg scope sc:Scope} {Ng:List Str} {fd:FuncData} {params:Arguments} {body:Expr} {p lpos pos:Pos} {fe:FE} {Φ:ky} {x1 x2 x3 en bn:Str} {c1 c2 c3:Value} {suite rest:List Stmt} {b₀:Stmt} {p1 p2 p3 tpos pos1 pos2 pos':Pos} {kk:Nat} {q1 q2 q3:Pos} {tw:List Nat} {tds:List KD}
  {fS:Addr->KD->Option (Addr × Nat)->FS} {fR:FS}
end
end UL

namespace UL
open PySem PySem.Spec PyProof.Rows L2 LamX
variable [bo]
def CW:U->Option PyData
  | .non=>some .none
  | .bl b=>some (.bool b)
  | .int i=>some (.int i)
  | .str x=>some (.str (S x))
  | _=>none
def nq:List (U × U)->Option (List (PyData × PyData))
  | []=>some []
  | (k,u)::r=>match eS k,CW u,nq r with
    | some (.inl i),some d,some ds=>some ((.int i,d)::ds)
    | some (.inr x),some d,some ds=>some ((.str x,d)::ds)
    | _,_,_=>none
theorem nv {K:PySem.W.Frag} {mg:Str->Option Value} {m:Nat->Addr} {H:Hp} {n:Nat} {u:U} {v:V} {w:Value} {d:PyData} {hp:Heap} (r:RU K mg m H n u v) (q:RelV v w) (e:CW u=some d):Reads hp w d []:=by
  unfold CW at e;split at e
  . cases e;simp only[RU] at r;subst r;cases q;exact .none
  . cases e;simp only[RU] at r;subst r;cases q;exact .bool _
  . cases e;simp only[RU] at r;subst r;obtain⟨t,rfl⟩:=q;exact .int _ t
  . cases e;simp only[RU] at r;subst r;obtain⟨t,rfl⟩:=q;exact .str _ t
  . cases e
theorem nV {K:PySem.W.Frag} {mg:Str->Option Value} {m:Nat->Addr} {H:Hp} {n:Nat} {P:Program} {w:World} {hp:Heap}:∀ {kvs:List (U × U)} {ks:List (Key × V)} {vs:List (Key × Value)} {es:List DictEntry} {ds:List (PyData × PyData)},fU K mg m H n kvs ks->KV ks vs->Pairs (mixKind P w) es vs->nq kvs=some ds ->
    ReadsAll hp (es.map (·.key)) (ds.map (·.1)) []/\ReadsAll hp (es.map (·.val)) (ds.map (·.2)) []
  | [],ks,vs,es,ds,r,k,p,e=>by
    cases r
    unfold KV at k;cases k
    cases p
    cases e
    exact⟨.nil,.nil⟩
  | (ku,u)::kvs,ks,vs,es,ds,r,k,p,e=>by
    obtain⟨q,v,r',rfl,hq,r1,r2⟩:=r;unfold KV at k;cases k with
    | cons k1 k2=>
      obtain⟨k1,k3⟩:=k1;cases p with
      | cons p1 p2 p3=>
        simp only[nq] at e;rw[hq] at e;split at e
        . rename_i i d ds' e1 e2 e3
          cases e
          cases e1
          obtain⟨h1,h2⟩:=nV r2 k2 p3 e3;rw[<- k1] at p1;have p1':keyIs (.inl i) _=true:=p1;rcases keyIs_shape p1' with ⟨j,t,ej,ek⟩ | ⟨y,t,ej,ek⟩
          . cases ej
            refine⟨?_,?_⟩
            . simp only[List.map_cons,ek]
              exact ReadsAll.cons (.int _ t) h1
            . simp only[List.map_cons]
              exact ReadsAll.cons (nv r1 (p2 ▸ k3) e2) h2
          . cases ej
        . rename_i i d ds' e1 e2 e3
          cases e
          cases e1
          obtain⟨h1,h2⟩:=nV r2 k2 p3 e3;rw[<- k1] at p1;have p1':keyIs (.inr i) _=true:=p1;rcases keyIs_shape p1' with ⟨j,t,ej,ek⟩ | ⟨y,t,ej,ek⟩
          . cases ej
          . cases ej
            refine⟨?_,?_⟩
            . simp only[List.map_cons,ek]
              exact ReadsAll.cons (.str _ t) h1
            . simp only[List.map_cons]
              exact ReadsAll.cons (nv r1 (p2 ▸ k3) e2) h2
        . cases e
def wA (kvs:List (U × U)):Option Str:=match nq kvs with
  | some ds=>if (PyData.dict ds).showable && decide ((PyData.dict ds).depth<=40) && decide ((PyData.dict ds).shown.length<=16777216) then some (PyData.dict ds).shown else none
  | none=>none
def dQ:GB:=fun us h=>match us with
  | [.non]=>some (.str ("None" : Str).cps.toList,h)
  | [.int i]=>if i.natAbs.log2 < 1920 then some (.str (toString i:Str).cps.toList,h) else none
  | [.str x]=>if (reprText (S x)).length<=16777216 then some (.str (reprText (S x)).cps.toList,h) else none
  | [.bl b]=>some (.str (if b then("True" : Str) else("False" : Str)).cps.toList,h)
  | [.ref i]=>match h[i]? with
    | some (.cq kvs)=>(wA kvs).map fun z=>(.str z.cps.toList,h)
    | _=>lG [.ref i] h
  | us=>lG us h
theorem lI {X:Cx} (G:GoodW X):SB X (.builtin "repr") dQ:=by
  intro m H h us vs u' h' Q r rh e post;unfold dQ at e;split at e
  . cases e
    obtain⟨v,e1,r1⟩:=gI r;simp only[RU] at r1;subst e1 r1;refine⟨fun vs H Q=>vs=[.non]/\Q (.str "None") H,?_,rfl,?_⟩
    . intro pins s σ H xs us Q I r h
      obtain⟨e,q⟩:=h;subst e;obtain⟨u,rfl,ru⟩:=vals1 r;obtain rfl:u=Value.none:=ru;exact PySem.P.repr_of_none ⟨.str _,H,I.tok _,⟨_,rfl⟩,q⟩
    . have q:=post_str rh post
      rw[kz] at q;exact q
  . split at e
    . rename_i i hi
      cases e
      obtain⟨v,e1,r1⟩:=gI r;simp only[RU] at r1;subst e1 r1;refine⟨_,SkE.call_repr_int,_,rfl,hi,?_⟩;have q:=post_str rh post;rw[kz] at q;exact q
    . cases e
  . split at e
    . rename_i x hx
      cases e
      obtain⟨v,e1,r1⟩:=gI r;simp only[RU] at r1;subst e1 r1;refine⟨fun vs H Q=>vs=[.str (S x)]/\Q (.str (reprText (S x))) H,?_,rfl,?_⟩
      . intro pins s σ H xs us Q I r h
        obtain⟨e,q⟩:=h;subst e;obtain⟨u,rfl,t,rfl⟩:=vals1 r;exact PySem.P.repr_of_str ⟨.str _,H,I.tok _,⟨_,rfl⟩,q⟩ (by rw[c8];exact hx)
      . have q:=post_str rh post
        rw[kz] at q;exact q
    . cases e
  . rename_i b
    cases e
    obtain⟨v,e1,r1⟩:=gI r;simp only[RU] at r1;subst e1 r1;refine⟨fun vs H Q=>vs=[.bl b]/\Q (.str (if b then("True" : Str) else("False" : Str))) H,?_,rfl,?_⟩
    . intro pins s σ H xs us Q I r h
      obtain⟨e,q⟩:=h;subst e;obtain⟨u,rfl,ru⟩:=vals1 r;obtain rfl:u=Value.bool b:=ru;exact PySem.P.repr_of_bool ⟨.str _,H,I.tok _,⟨_,by cases b<;>rfl⟩,q⟩
    . have q:=post_str rh post
      rw[kz] at q;exact q
  . rename_i i
    split at e
    . rename_i kvs hk
      obtain⟨z,hz,e⟩:=mOsZ.mp e;cases e
      unfold wA at hz;split at hz
      . rename_i ds hds
        split at hz
        . rename_i hs
          cases hz
          simp only[Bool.and_eq_true,decide_eq_true_eq] at hs;obtain⟨⟨s1,s3⟩,s4⟩:=hs;obtain⟨v,e1,r1⟩:=gI r;simp only[RU] at r1;obtain⟨hi,rfl⟩:=r1;subst e1;obtain⟨ks,ek,rk⟩:=rh.at_ i _ hk;refine⟨fun vs H Q=>vs=[.ref (m i)]/\H (m i)=some (.dK ks)/\Q (.str (PyData.dict ds).shown) H,?_,rfl,ek,?_⟩
          . intro pins s σ H xs us Q I r h
            obtain⟨e,hx,q⟩:=h;subst e;rw[Vals.ref1 r];obtain⟨_,hsm,vs,rel,o,es,ep,eo,ex,hd,_,pairs,_⟩:ks.length<=sizeLine/\(m i == sysModules)=false/\∃ vs,KV ks vs/\s.heap.DictOf (mixKind X.prog X.w) (m i) vs:=I.hok _ _ hx
            obtain⟨q1,q2⟩:=nV (hp:=s.heap) rk rel pairs hds;have rd:Reads s.heap (.ref (m i)) (.dict ds) (m i::[]++[]):=.dict eo ex.1 hd q1 q2;refine repr_of_reads' rd s1 (fun _ hm=>?_) G.gd (by have:=G.hu;omega) (fun _ _ e=>e) (fun h' u tk hk=>⟨.str (PyData.dict ds).shown,H,I.kept (t':=tk) hk,⟨u,rfl⟩,q⟩) (by rw[c8];exact s4)
            have hm':sysModules=m i:=by simpa using hm
            rw[<- hm'] at hsm;simp at hsm
          . have q:=post_str rh post
            rw[kz] at q;exact q
        . cases hz
      . cases hz
    . exact xW G m H h _ vs u' h' Q r rh e post
  . exact xW G m H h _ vs u' h' Q r rh e post
@[simp] theorem reprA_tup {us:List U} {h:Hm}:dQ [.tup us] h=lG [.tup us] h:=rfl
def valV (f:Option Str) (fs:List (Str × U)):Option U:=match f with
  | none=>some .non
  | some f=>fs.lookup f
theorem Fy.trans {h h' h'':Hm} (a:Fy h h') (b:Fy h' h''):Fy h h'':=⟨Nat.le_trans a.le b.le,fun i hi=>(b.keep i (Nat.lt_of_lt_of_le hi a.le)).trans (a.keep i hi)⟩
theorem Fy.new {h g:Hm}:Fy h (h++g):=⟨by simp,fun i hi=>List.getElem?_append_left hi⟩
def HB (d:Option (Addr × Nat)) (fs:List (Str × U)) (h:Hm):Prop:=match d with
  | none=>fs=[]
  | some (dd,i)=>h[i]?=some (.exd dd fs)
theorem HB.gr {d:Option (Addr × Nat)} {fs:List (Str × U)} {h h':Hm} (e:HB d fs h) (g:Fy h h'):HB d fs h':=by
  unfold HB at *
  split at e
  . exact e
  . rename_i i
    exact(g.keep i (gEsZ.mp e).1).trans e
theorem HB.ok {d:Option (Addr × Nat)} {fs:List (Str × U)} {h:Hm} (e:HB d fs h):KQ d h=true:=by
  cases d with
  | none=>rfl
  | some p=>
    obtain⟨dd,i⟩:=p;have e':h[i]?=some (.exd dd fs):=e;simp[KQ,e']
end UL

namespace UL
open PySem PySem.Spec PyProof.Rows L2
variable [bo]
structure EqOk (X:Cx) (j:Nat) (c:Str) (F:Fn):Prop where
  out:∃ C g k np,X.mg c=some (.ref C)/\Meth X.K C "__eq__" g/\dA X.prog X.w X.K X.mg X.base k g np F/\k<=j
section
variable {X:Cx} {j:Nat}
end
end UL

namespace UL
open PySem PySem.Spec PyProof.Rows L2
variable [bo]
section
variable {X:Cx} {e o:Expr} {es:List Expr} {kws:List Keyword} {fo:FE} {fa fk:FA} {F:Fn} {k j np n:Nat} {ks:List Str} {gU:List U->List U->List U} {x:Str} {p pos apos:Pos}
end
end UL

namespace HT
open PySem PySem.Spec PyProof.Rows
section
variable {prog:Program} {w:World} {A:Around} {E:Value->Shared->Prop} {s:Shared}
end
end HT

namespace UL
open PySem PySem.Spec PyProof.Rows L2
variable [bo]
section
variable {X:Cx}
end
section
variable {X:Cx} {a:Expr} {fa:FE} {pos:Pos}
end
end UL

namespace PySem.SeqAt
open AutoSeq1 (wpAny_loadPart')
open MeetsSeq MeetsSeq2 MeetsSeq3
end PySem.SeqAt
namespace L2
open PySem PySem.Spec PyProof.Rows
section
variable {X:Cx}
end
end L2
namespace UL
open PySem PySem.Spec PyProof.Rows L2
variable [bo]
section
variable {X:Cx}
def JY (u w:U) (h:Hm):Option Bool:=match u,w with
  | .ref i,.tup _=>match h[i]? with
    | some (.cq _)=>some true
    | some (.lst _)=>some true
    | some (.fro _)=>some true
    | _=>none
  | .tup (_::_),.tup []=>some true
  | _,_=>none
def KP:G2:=fun u w h=>match JY u w h with
  | some b=>some (.bl b,h)
  | none=>Be u w h
end
end UL

namespace UL
open PySem PySem.Spec PyProof.Rows L2
variable [bo]
def m7 (X:Cx) (H:Hp) (q:NestedKey) (b:Addr):Prop:=∀ (pins:List (Addr × Obj)) (σ:Sg) (s:Shared),Inv X pins σ H s->(nestedKind X.prog X.w).is s.heap q b
structure mr (X:Cx) (H:Hp) (a:Addr) (xs:List gi):Prop where
  at_:∀ (pins:List (Addr × Obj)) (σ:Sg) (s:Shared),Inv X pins σ H s->s.heap.DictOfH (nestedKind X.prog X.w) a xs/\(a == sysModules)=false
  le:xs.length<=sizeLine
  mu:Mut (H a)
def iK:List (U × U)->NestedKey->Option U
  | [],_=>none
  | (k,u)::r,q=>if dO k=some q then some u else iK r q
def lD (kvs:List (U × U)) (k u:U):List (U × U):=
  if (kvs.any fun kv=>decide (dO kv.1=dO k))=true then kvs.map (fun kv=>if dO kv.1=dO k then(kv.1,u) else kv) else kvs++[(k,u)]
section
variable {X:Cx} {m:Nat->Addr} {H:Hp} {n:Nat}
mutual
theorem E5 {pins:List (Addr × Obj)} {σ:Sg} {s:Shared} (I:Inv X pins σ H s):∀ (u:U) (v:V) (q:NestedKey) (r:Value),RU X.K X.mg m H n u v->RelV v r->E4 u=some q->NestedIs s.heap q r
  | .non,v,q,r,h,hr,e=>by
    simp only[RU] at h;subst h;cases e
    cases (show r=Value.none from hr)
    exact .none
  | .bl b,v,q,r,h,hr,e=>by
    simp only[RU] at h;subst h;cases e
    cases (show r=Value.bool b from hr)
    exact .bool rfl
  | .int i,v,q,r,h,hr,e=>by
    simp only[RU] at h;subst h;cases e
    obtain⟨t,rfl⟩:=(show ∃ t,r=Value.int i t from hr)
    exact .int i t
  | .str x,v,q,r,h,hr,e=>by
    simp only[RU] at h;subst h;cases e
    obtain⟨t,rfl⟩:=(show ∃ t,r=Value.str (S x) t from hr)
    exact .text _ t
  | .tup us,v,q,r,h,hr,e=>by
    simp only[RU] at h;obtain⟨a,xs,rfl,t,rs⟩:=h;cases (show r=Value.ref a from hr)
    have e:(uE us).map NestedKey.tup=some q:=e;obtain⟨qs,hq,rfl⟩:=mOsZ.mp e;obtain⟨its,rv,p,_⟩:=I.tuple t;obtain⟨o,h1,h2,k,h3⟩:=p;exact .tup h1 h2 h3 (by simpa using Bg I us xs qs its rs rv hq)
  | .ty _,_,_,_,_,_,e=>by cases e
  | .glo _,_,_,_,_,_,e=>by cases e
  | .ref _,_,_,_,_,_,e=>by cases e
  | .adr _,_,_,_,_,_,e=>by cases e
theorem Bg {pins:List (Addr × Obj)} {σ:Sg} {s:Shared} (I:Inv X pins σ H s):∀ (us:List U) (vs:List V) (qs:List NestedKey) (rs:List Value),a5 X.K X.mg m H n us vs->Vals vs rs->uE us=some qs->NestedAll s.heap qs rs
  | [],vs,qs,rs,h,hr,e=>by
    simp only[a5] at h;subst h;cases e
    cases hr
    exact .nil
  | u::us,vs,qs,rs,h,hr,e=>by
    simp only[a5] at h;obtain⟨v,r,rfl,h1,h2⟩:=h;have e:((E4 u).bind fun k=>(uE us).map fun ks=>k::ks)=some qs:=e
    obtain⟨q,hq,e⟩:=Option.bind_eq_some_iff.mp e;obtain⟨q',hq',rfl⟩:=mOsZ.mp e;cases hr with
    | cons r1 r2=>exact .cons (E5 I u v q _ h1 r1 hq) (Bg I us _ q' _ h2 r2 hq')
end
theorem iJ {u:U} {v:V} {q:NestedKey} (h:RU X.K X.mg m H n u v) (e:dO u=some q):∃ b,v=.ref b/\m7 X H q b:=by
  cases u with
  | tup us=>
    have e:((E4 (.tup us)).bind fun k=>if k.depth<=8 then some k else none)=some q:=e
    obtain⟨k,hk,e⟩:=Option.bind_eq_some_iff.mp e;split at e
    . rename_i hd
      cases e
      obtain⟨b,xs,rfl,t,rs⟩:=(by simpa only[RU] using h:∃ a xs,v=.ref a/\SqT X.K H a xs/\a5 X.K X.mg m H n us xs)
      exact⟨b,rfl,fun pins σ s I=>⟨E5 I (.tup us) _ q _ h rfl hk,hd⟩⟩
    . cases e
  | _=>cases e
theorem xx {u:U} {b:Addr} {q:NestedKey} (h:RU X.K X.mg m H n u (.ref b)) (e:dO u=some q):m7 X H q b:=by
  obtain⟨b',e',k⟩:=iJ h e;cases e'
  exact k
theorem gz.length {K:PySem.W.Frag} {mg:Str->Option Value}:∀ {kvs:List (U × U)} {xs:List gi},gz K mg m H n kvs xs->kvs.length=xs.length
  | [],_,h=>by
    have e:_=[]:=h;subst e;rfl
  | (k,u)::kvs,_,h=>by
    obtain⟨q,b,v,r,rfl,_,_,_,h2⟩:=h;simp[gz.length h2]
theorem gz.keys:∀ {kvs:List (U × U)} {xs:List gi},gz X.K X.mg m H n kvs xs->∀ x∈xs,m7 X H x.1 x.2.1
  | [],_,h=>by
    have e:_=[]:=h;subst e;exact fun x hx=>nomatch hx
  | (k,u)::kvs,_,h=>by
    obtain⟨q,b,v,r,rfl,hk,h1,_,h2⟩:=h;intro x hx;rcases List.mem_cons.mp hx with rfl | hx
    . exact xx h1 hk
    . exact gz.keys h2 x hx
theorem lA {h:Hm} {i:Nat} {kvs:List (U × U)} (rh:RH X.w X.K X.mg m H h) (e:h[i]?=some (.dN kvs)):∃ xs,mr X H (m i) xs/\gz X.K X.mg m H h.length kvs xs:=by
  obtain⟨e1,e2,xs,es,ep,e3,e4,e5,r⟩:=rh.at_ _ _ e;refine⟨xs,⟨fun pins σ s I=>?_,by rw[<- r.length];exact e2,by rw[e3];trivial⟩,r⟩
  obtain⟨o,h1,h2,h3⟩:=(I.hok _ _ e3).1;exact⟨⟨o,es,ep,h1,h2,h3,e4,fun x hx=>r.keys x hx pins σ s I,e5⟩,e1⟩
theorem l3 {h:Hm} {i:Nat} (rh:RH X.w X.K X.mg m H h) (e:h[i]?=some (.cq [])):mr X H (m i) []:=by
  obtain⟨ks,e3,r⟩:=rh.at_ _ _ e;have e0:ks=[]:=r;subst e0;refine⟨fun pins σ s I=>?_,Nat.zero_le _,by rw[e3];trivial⟩
  obtain⟨_,hn,vs,r0,o,es,ep,h1,h2,h3,h4,h5,_⟩:=I.hok _ _ e3;cases r0
  have h6:es.toList=[]:=by
    cases q:es.toList with
    | nil=>rfl
    | cons a r=>rw[q] at h5;cases h5
  exact⟨⟨o,es,ep,h1,h2,h3,by rw[h6];rfl,fun x hx=>absurd hx (List.not_mem_nil),List.nodup_nil⟩,hn⟩
theorem gz.get {q:NestedKey}:∀ {kvs:List (U × U)} {xs:List gi},gz X.K X.mg m H n kvs xs->(iK kvs q=none->atKey xs q=none)/\∀ u,iK kvs q=some u->∃ b v y,atKey xs q=some (b,v)/\RelV y v/\RU X.K X.mg m H n u y
  | [],_,h=>by
    have e:_=[]:=h;subst e;exact⟨fun _=>rfl,fun u z=>nomatch z⟩
  | (k,w)::kvs,_,h=>by
    obtain⟨q',b,v,r,rfl,hk,h1,⟨y,ry,h3⟩,h2⟩:=h;unfold iK atKey
    by_cases z:q'=q
    . subst z
      rw[if_pos hk];refine⟨fun z=>(nomatch z),fun u z=>?_⟩
      cases z
      exact⟨b,v,y,by simp,ry,h3⟩
    . rw[if_neg fun z'=>z (Option.some.inj (hk.symm.trans z'))]
      have ih:=gz.get (q:=q) h2;unfold atKey at ih;simpa[z] using ih
theorem vM {xs:List gi} {q:NestedKey}:(xs.any fun x=>decide (x.1=q))=(atKey xs q).isSome:=by
  induction xs with
  | nil=>rfl
  | cons x xs ih=>
    unfold atKey at ih ⊢
    by_cases h:x.1=q
    . simp[h]
    . simpa[h] using ih
theorem gz.any {k:U} {q:NestedKey} (hq:dO k=some q):∀ {kvs:List (U × U)} {xs:List gi},gz X.K X.mg m H n kvs xs->(kvs.any fun kv=>decide (dO kv.1=dO k))=(atKey xs q).isSome
  | [],_,h=>by
    have e:_=[]:=h;subst e;rfl
  | (k',w)::kvs,_,h=>by
    obtain⟨q',b,v,r,rfl,hk,h1,⟨y,ry,h3⟩,h2⟩:=h;have ih:=gz.any hq h2;rw[<- vM] at ih ⊢;rw[List.any_cons,List.any_cons,ih]
    congr 1
    show decide (dO k'=dO k)=decide (q'=q);rw[hk,hq]
    by_cases z:q'=q
    . simp[z]
    . rw[decide_eq_false z,decide_eq_false fun z'=>z (Option.some.inj z')]
theorem gz.mapP {k u:U} {q:NestedKey} {y:V} {v:Value} (hq:dO k=some q) (ry:RelV y v) (ru:RU X.K X.mg m H n u y):∀ {kvs:List (U × U)} {xs:List gi},gz X.K X.mg m H n kvs xs->gz X.K X.mg m H n (kvs.map fun kv=>if dO kv.1=dO k then(kv.1,u) else kv) (xs.map (putAt q v))
  | [],_,h=>by
    have e:_=[]:=h;subst e;exact rfl
  | (k',w)::kvs,_,h=>by
    obtain⟨q',b,v',r,rfl,hk,h1,⟨y',ry',h3⟩,h2⟩:=h;have ih:=gz.mapP hq ry ru h2;rw[List.map_cons,List.map_cons];show gz X.K X.mg m H n ((if dO k'=dO k then(k',u) else(k',w))::_) ((if q'=q then(q',b,v) else(q',b,v'))::_)
    by_cases z:q'=q
    . subst z
      rw[if_pos (hk.trans hq.symm),if_pos rfl];exact⟨q',b,v,_,rfl,hk,h1,⟨y,ry,ru⟩,ih⟩
    . rw[if_neg fun z'=>z (Option.some.inj ((hk.symm.trans z').trans hq)),if_neg z]
      exact⟨q',b,v',_,rfl,hk,h1,⟨y',ry',h3⟩,ih⟩
theorem gz.snoc {k u:U} {q:NestedKey} {b:Addr} {y:V} {v:Value} (hq:dO k=some q) (hb:RU X.K X.mg m H n k (.ref b)) (ry:RelV y v) (ru:RU X.K X.mg m H n u y):∀ {kvs:List (U × U)} {xs:List gi},gz X.K X.mg m H n kvs xs->gz X.K X.mg m H n (kvs++[(k,u)]) (xs++[(q,b,v)])
  | [],_,h=>by
    have e:_=[]:=h;subst e;exact⟨q,b,v,[],rfl,hq,hb,⟨y,ry,ru⟩,rfl⟩
  | (k',w)::kvs,_,h=>by
    obtain⟨q',b',v',r,rfl,hk,h1,h3,h2⟩:=h;exact⟨q',b',v',_,rfl,hk,h1,h3,gz.snoc hq hb ry ru h2⟩
theorem gz.put {k u:U} {q:NestedKey} {b:Addr} {y:V} {v:Value} {kvs:List (U × U)} {xs:List gi} (hq:dO k=some q) (hb:RU X.K X.mg m H n k (.ref b)) (ry:RelV y v) (ru:RU X.K X.mg m H n u y) (h:gz X.K X.mg m H n kvs xs):gz X.K X.mg m H n (lD kvs k u) (storedH xs q b v):=by
  unfold lD storedH;rw[h.any hq];split
  . exact h.mapP hq ry ru
  . exact h.snoc hq hb ry ru
theorem uF (kvs:List (U × U)) (k u:U):(lD kvs k u).length<=kvs.length + 1:=by
  unfold lD;split
  . rw[List.length_map];omega
  . simp
def GW (X:Cx) (neg:Bool):R2:=fun x y H Q=>∃ a b q xs,x=.ref b/\y=.ref a/\m7 X H q b/\mr X H a xs/\Q (.bl (if neg then !(atKey xs q).isSome else(atKey xs q).isSome)) H
theorem sy (hu:X.A.units + 64 < cLine):(nestedKind X.prog X.w).room X.A.in1:=by
  show X.A.units + 1 + 8 < cLine;omega
theorem GS (hu:X.A.units + 64 < cLine):OpR X (compareOp .In) (GW X false):=by
  intro pins s σ H x y v u Q I rx ry h;obtain⟨a,b,q,xs,rfl,rfl,hk,hd,post⟩:=h;cases rx
  cases ry
  exact wpAny_in_heap (sy hu) (hk pins σ s I) (hd.at_ pins σ s I).2 (hd.at_ pins σ s I).1 ⟨.bl _,H,I.tok _,rfl,post⟩
theorem zd (hu:X.A.units + 64 < cLine):OpR X (compareOp .NotIn) (GW X true):=by
  intro pins s σ H x y v u Q I rx ry h;obtain⟨a,b,q,xs,rfl,rfl,hk,hd,post⟩:=h;cases rx
  cases ry
  exact wpAny_notIn_heap (sy hu) (hk pins σ s I) (hd.at_ pins σ s I).2 (hd.at_ pins σ s I).1 ⟨.bl _,H,I.tok _,rfl,post⟩
def inD (neg:Bool):G2:=fun u w h=>match w with
  | .ref i=>match h[i]? with
    | some (.dN kvs)=>(dO u).map fun q=>(.bl (if neg then !(iK kvs q).isSome else(iK kvs q).isSome),h)
    | some (.cq [])=>(match dO u with
      | some _=>some (.bl neg,h)
      | none=>iW neg u w h)
    | _=>iW neg u w h
  | _=>iW neg u w h
theorem uD {kvs:List (U × U)} {xs:List gi} {q:NestedKey} (r:gz X.K X.mg m H n kvs xs):(iK kvs q).isSome=(atKey xs q).isSome:=by
  cases e:iK kvs q with
  | none=>rw[(r.get (q:=q)).1 e];rfl
  | some u=>obtain⟨b,v,y,hv,_⟩:=(r.get (q:=q)).2 u e;rw[hv];rfl
theorem oY (neg:Bool) {f:Value->Value->Sem Value} (o1:SO X f (iW neg)) (o2:OpR X f (GW X neg)):SO X f (inD neg):=by
  intro m H h u w x y u' h' Q r1 r2 rh e post;unfold inD at e;split at e
  . rename_i i
    split at e
    . rename_i kvs hk
      obtain⟨q,hq,e⟩:=mOsZ.mp e;cases e
      simp only[RU] at r2;obtain⟨b,rfl,kb⟩:=iJ r1 hq;obtain⟨xs,hd,rn⟩:=lA rh hk;refine⟨_,o2,m i,b,q,xs,rfl,r2.2,kb,hd,?_⟩;rw[<- uD rn];exact cj rh post
    . rename_i hk
      split at e
      . rename_i q hq
        cases e
        simp only[RU] at r2;obtain⟨b,rfl,kb⟩:=iJ r1 hq;refine⟨_,o2,m i,b,q,[],rfl,r2.2,kb,l3 rh hk,?_⟩;have:(if neg then !(atKey ([]:List gi) q).isSome else(atKey ([]:List gi) q).isSome)=neg:=by cases neg<;>rfl
        rw[this];exact cj rh post
      . exact o1 m H h u _ x y u' h' Q r1 r2 rh e post
    . exact o1 m H h u _ x y u' h' Q r1 r2 rh e post
  . exact o1 m H h u w x y u' h' Q r1 r2 rh e post
theorem iD (G:GoodW X):SO X (compareOp .In) (inD false):=oY false (Hf G) (GS G.hu)
theorem zy (G:GoodW X):SO X (compareOp .NotIn) (inD true):=oY true (zx G) (zd G.hu)
def J4 (X:Cx):R2:=fun x y H Q=>∃ a b q xs c v z,x=.ref a/\y=.ref b/\m7 X H q b/\mr X H a xs/\atKey xs q=some (c,v)/\RelV z v/\Q z H
theorem Ii (hu:X.A.units + 64 < cLine):IxR X (J4 X):=by
  intro value slice pins s σ H x y v u Q I rx ry h hs;obtain⟨a,b,q,xs,c,v',z,rfl,rfl,hk,hd,hv,rz,post⟩:=h;cases rx
  cases ry
  exact tail_any (hd.at_ pins σ s I).1.typeIs PySem.F.slot_dict_getitem.lookup (wpAny_getItem_heap (sy hu) (hk pins σ s I) (hd.at_ pins σ s I).1 hv ⟨z,H,I.tok _,rz,post⟩) hs
def ixN:G2:=fun u w h=>match u with
  | .ref i=>match h[i]? with
    | some (.dN kvs)=>(dO w).bind fun q=>(iK kvs q).map fun v=>(v,h)
    | _=>vF u w h
  | _=>vF u w h
theorem Ha (G:GoodW X):SI X ixN:=by
  intro m H h u w x y u' h' Q r1 r2 rh e post;unfold ixN at e;split at e
  . rename_i i
    split at e
    . rename_i kvs hk
      obtain⟨q,hq,e⟩:=Option.bind_eq_some_iff.mp e;obtain⟨v,hv,e⟩:=mOsZ.mp e;cases e
      simp only[RU] at r1;obtain⟨b,rfl,kb⟩:=iJ r2 hq;obtain⟨xs,hd,rn⟩:=lA rh hk;obtain⟨c,v',z,hv',rz,ru⟩:=(rn.get (q:=q)).2 _ hv;exact⟨_,Ii G.hu,m i,b,q,xs,c,v',z,r1.2,rfl,kb,hd,hv',rz,oJ ru rh post⟩
    . exact Ck G m H h _ w x y u' h' Q r1 r2 rh e post
  . exact Ck G m H h u w x y u' h' Q r1 r2 rh e post
theorem bq {a b:Expr} {fa fb:FE} {pos:Pos} (G:GoodW X) (ha:SE X a fa) (hb:SE X b fb) (hs:PlainIx b:=by intro _ _;rfl):SE X (.Subscript a b pos) (aM ixN fa fb):=by
  intro su h σ H m rs rh Q fin;refine⟨fun pins s I=>?_⟩
  have two':lJ X a σ H fun x H1=>lJ X b σ H1 fun y H2=>∃ r,IxR X r/\r x y H2 Q:=by
    refine ha su h σ H m rs rh _ (fin.bind.imp fun x H1 ⟨u,h1,m1,up1,r1,rh1,fin1⟩=>?_)
    refine hb su h1 σ H1 m1 (rs.up up1) rh1 _ (fin1.bind.imp fun y H2 ⟨w,h2,m2,up2,r2,rh2,fin2⟩=>?_)
    obtain⟨u',h',e,post⟩:=fin2.some;exact Ha G m2 H2 h2 u w x y u' h' Q (RU.up up2 _ _ r1) r2 rh2 e post
  exact Subscript_ (binT bO bO I two' fun v u s2 x y H2 I2 rx ry ⟨r,hr,q⟩=>hr a b pins s2 σ H2 x y v u Q I2 rx ry q (hs _ _))
theorem zh {pins:List (Addr × Obj)} {σ:Sg} {s:Shared} {a:Addr} {xs:List gi} {h':Heap} {t':Nat} (I:Inv X pins σ H s) (mu:Mut (H a)) (hs:Heap.SameBut a s.heap h') (hm:h'.DictOfH (nestedKind X.prog X.w) a xs):∃ es ep,es.toList=xs.map (CZ X.w)/\(xs.map (·.1)).Nodup/\Inv X pins σ (upd H a (vH a es ep)) { s with heap:=h',toks:=t' }:=by
  obtain⟨o,es,ep,h1,h2,h3,h4,_,h5⟩:=hm;refine⟨es,ep,h4,h5,d_write I mu hs ⟨o,h1⟩ ⟨⟨o,h1,h2,h3⟩,⟨o,h1⟩,fun g1 g2 ⟨o',e1,e2,e3⟩ k=>⟨o',k _ e1,e2,e3⟩⟩⟩
def Fb (X:Cx):TSet:=fun x y z H Q=>∃ a b q xs,x=.ref a/\y=.ref b/\m7 X H q b/\mr X H a xs/\∀ r es ep,(a == sysModules)=false->RelV z r->es.toList=(storedH xs q b r).map (CZ X.w)->((storedH xs q b r).map (·.1)).Nodup->Q (upd H a (vH a es ep))
theorem Cf (hu:X.A.units + 64 < cLine):PSet X (Fb X):=by
  intro pins s σ H o i v ov iv u Q I ro ri rv h;obtain⟨a,b,q,xs,rfl,rfl,hk,hd,post⟩:=h;cases ro
  cases ri
  refine wpAny_setItem_heap (hsz:=hd.le) (sy hu) (hk pins σ s I) (hd.at_ pins σ s I).1 fun h' hm' hs=>?_
  obtain⟨es,ep,h4,h5,I'⟩:=zh I hd.mu hs hm';exact⟨_,I',post u es ep (hd.at_ pins σ s I).2 rv h4 h5⟩
def Ej (o i v:U) (h:Hm):Option Hm:=match o with
  | .ref r=>match h[r]? with
    | some (.dN kvs)=>match dO i with
      | some _=>if kvs.length < 16777216 then some (h.set r (.dN (lD kvs i v))) else none
      | none=>none
    | some (.cq [])=>(match dO i with
      | some _=>some (h.set r (.dN [(i,v)]))
      | none=>lK o i v h)
    | _=>lK o i v h
  | _=>lK o i v h
theorem qL {h:Hm} {i v:U} {z:V} {r:Nat} {kvs:List (U × U)} {xs:List gi} {ob:O} {b:Addr} {q:NestedKey} {Q:Hp->Prop} (G:GoodW X) (hq:h[r]?=some ob) (hf:nK ob=false) (hd:mr X H (m r) xs) (rn:gz X.K X.mg m H h.length kvs xs) (hk:dO i=some q)
    (r2:RU X.K X.mg m H h.length i (.ref b)) (r3:RU X.K X.mg m H h.length v z) (rh:RH X.w X.K X.mg m H h) (hl:(lD kvs i v).length<=sizeLine)
    (post:∀ m' H',Up X.K m H h.length m' H' h.length->RH X.w X.K X.mg m' H' (h.set r (.dN (lD kvs i v)))->Q H'):Fb X (.ref (m r)) (.ref b) z H Q:=by
  refine⟨m r,b,q,xs,rfl,rfl,xx r2 hk,hd,fun rv es ep nm hz h4 h5=>?_⟩
  have upM:=Up.CI (K:=X.K) (m:=m) (n:=h.length) (o:=vH (m r) es ep) hd.mu;exact post m _ upM (rh.put (ob':=.dN (lD kvs i v)) hq hf rfl ⟨nm,hl,_,es,ep,upd_same,h4,h5,gz.up upM _ _ (rn.put hk r2 hz r3)⟩)
theorem Ek {j:Nat} (G:Good X j) {h h':Hm} {o i v:U} {x y z:V} {Q:Hp->Prop} (r1:RU X.K X.mg m H h.length o x) (r2:RU X.K X.mg m H h.length i y) (r3:RU X.K X.mg m H h.length v z) (rh:RH X.w X.K X.mg m H h) (e:Ej o i v h=some h')
    (post:∀ m' H',Up X.K m H h.length m' H' h'.length->RH X.w X.K X.mg m' H' h'->Q H'):∃ t,PSet X t/\t x y z H Q:=by
  unfold Ej at e;split at e
  . rename_i r
    split at e
    . rename_i kvs hq
      split at e
      . rename_i q hk
        split at e
        . rename_i hlt
          cases e
          simp only[RU] at r1;obtain⟨b,rfl,_⟩:=iJ r2 hk;obtain⟨xs,hd,rn⟩:=lA rh hq;refine⟨_,Cf G.hu,?_⟩;rw[r1.2];exact qL G hq rfl hd rn hk r2 r3 rh (by have:=uF kvs i v;rw[sizeLine_eq];omega) fun m' H' up rh'=>post m' H' (by rw[eI];exact up) rh'
        . cases e
      . cases e
    . rename_i hq
      split at e
      . rename_i q hk
        cases e
        simp only[RU] at r1;obtain⟨b,rfl,_⟩:=iJ r2 hk;refine⟨_,Cf G.hu,?_⟩;rw[r1.2];exact qL (kvs:=[]) G hq rfl (l3 rh hq) rfl hk r2 r3 rh (by rw[sizeLine_eq];have:=uF [] i v;simp only[List.length_nil] at this;omega) fun m' H' up rh'=>post m' H' (by rw[eI];exact up) rh'
      . exact sG G r1 r2 r3 rh e post
    . exact sG G r1 r2 r3 rh e post
  . exact sG G r1 r2 r3 rh e post
def vg (fo fi:FE):FG:=fun v su h=>(bx (fo su h)).bind fun o h1=>(bx (fi su h1)).bind fun i h2=>match Ej o i v h2 with
  | some h3=>.ok su h3
  | none=>.bad
theorem sH {j:Nat} {o i:Expr} {fo fi:FE} {pos:Pos} (G:Good X j) (ho:SE X o fo) (hi:SE X i fi)
    (ha:∀ v,assign (.Subscript o i pos) X.env v=(do
      let ov <- holding [v] (eval o X.env)
      let iv <- holding [v,ov] (eval i X.env)
      standAt pos
      holding [v,ov,iv] (setItem ov iv v)
      release [v,ov,iv] []):=by intro _;rfl):SG X (.Subscript o i pos) (vg fo fi) []:=by
  intro u v su h σ H m r rs rh Q fin;refine⟨fun pins s w I rw'=>?_⟩
  have f1:=(Fin.bind (RV:=cW X) fin).quiet.2
  have g1:lJ X o σ H fun x H1=>lJ X i σ H1 fun y H2=>∃ t,PSet X t/\t x y v H2 (fun H3=>Q σ H3):=by
    refine ho su h σ H m rs rh _ (f1.imp fun x H1 ⟨uo,h1,m1,up1,r1,rh1,fin1⟩=>?_)
    have f2:=(Fin.bind (RV:=cW X) fin1).quiet.2;refine hi su h1 σ H1 m1 (rs.up up1) rh1 _ (f2.imp fun y H2 ⟨ui,h2,m2,up2,r2,rh2,fin2⟩=>?_)
    split at fin2
    . rename_i h3 e3
      refine Ek G (RU.up up2 _ _ r1) r2 (RU.up up2 _ _ (RU.up up1 _ _ r)) rh2 e3 fun m' H' up3 rh3=>?_
      exact fin2 σ m' H' up3 (((rs.up up1).up up2).up up3) rh3
    . exact False.elim fin2
  rw[ha];refine wpAny_bind (wpAny_holding (thn (g1 pins s I) fun ov s1 ⟨x,H1,I1,r1,q1⟩=>?_))
  refine wpAny_bind (wpAny_holding (thn (q1 pins s1 I1) fun iv s2 ⟨y,H2,I2,r2,t,ht,q2⟩=>?_))
  refine wpAny_bind (wpAny_standAt (wpAny_bind (wpAny_holding (thn (ht pins s2 σ H2 x y v ov iv w _ I2 r1 r2 rw' q2) fun _ s3 ⟨H3,I3,q3⟩=>?_))))
  exact wpAny_release ⟨σ,H3,I3,Off.refl,q3⟩
theorem pZ:CallR X (.builtin "len") (fun vs H Q=>∃ a xs,vs=[.ref a]/\mr X H a xs/\Q (.int xs.length) H):=by
  intro pins s σ H xs us Q I r h;obtain⟨a,ys,rfl,hd,q⟩:=h;obtain⟨u,rfl,rx⟩:=vals1 r;cases rx
  have hm:s.heap.DictKeyed (nestedKind X.prog X.w) a (pairsH ys):=⟨ys,(hd.at_ pins σ s I).1,rfl⟩;have hz:=hd.le;rw[sizeLine_eq] at hz;refine call_len_slot (n:=(pairsH ys).length) hm.typeIs PySem.F.slot_dict_len (fun Q' hq=>len_keyed (hd.at_ pins σ s I).2 hm hq) (by omega) (by rw[pairsH_length];omega) ?_
  rw[pairsH_length];exact⟨.int ys.length,H,I.tok _,⟨_,rfl⟩,q⟩
def hB:GB:=fun us h=>match us with
  | [.ref i]=>(match h[i]? with
    | some (.dN kvs)=>some (.int kvs.length,h)
    | some (.cq [])=>some (.int 0,h)
    | _=>eA us h)
  | _=>eA us h
theorem fC:SB X (.builtin "len") hB:=by
  intro m H h us vs u' h' Q r rh e post;unfold hB at e;split at e
  . rename_i i
    split at e
    . rename_i kvs hk
      cases e
      obtain⟨v,e1,r1⟩:=gI r;simp only[RU] at r1;obtain⟨_,rfl⟩:=r1;subst e1;obtain⟨xs,hd,rn⟩:=lA rh hk;exact⟨_,pZ,m i,xs,rfl,hd,by rw[<- rn.length];exact post_int rh post⟩
    . rename_i hk
      cases e
      obtain⟨v,e1,r1⟩:=gI r;simp only[RU] at r1;obtain⟨_,rfl⟩:=r1;subst e1;exact⟨_,pZ,m i,[],rfl,l3 rh hk,post_int rh post⟩
    . exact B5 m H h _ vs u' h' Q r rh e post
  . exact B5 m H h _ vs u' h' Q r rh e post
end
end UL

namespace UL
open PySem PySem.Spec PyProof.Rows L2 LamX
variable [bo]
structure HP (sc scope:Scope) (pv:Str):Prop where
  kind:scope.kind=.function
  co:scope.isCoroutine=false
  gen:scope.isGenerator=false
  par:scope.names.lookup pv=some .local
  own:∀ y∈scope.names,y.2≠.cell/\(y.2=.local->y.1=pv)
  free:∀ y∈scope.names,y.2=.free->sc.names.lookup y.1=some .cell\/sc.names.lookup y.1=some .free
theorem HP.has {X:Cx} {scope:Scope} {pv:Str} (L:HP X.env.scope scope pv) (ok:X.Ok):∀ y∈scope.names,y.2=.free->∃ c,X.env.cells.lookup y.1=some c:=fun y hy e=>by
  rcases L.free y hy e with k | k
  . exact ok.has _ (.inl k)
  . exact ok.has _ (.inr k)
section
variable {X:Cx} {pins:List (Addr × Obj)} {σ:Sg} {H HZ:Hp} {s s1:Shared}
def zV (H:Hp) (P c':Addr) (lpos:Pos):Prop:=∃ ps:Array Value,H P=some (.tbl ps)/\TriplesOk ps.toList/\codeAmong lpos ps.toList=some (.ref c')
theorem yt {pos:Pos} {cv:Value} (l r:List Value) (h:TriplesOk l) (hc:codeAmong pos l=some cv):codeAmong pos (l++r)=some cv:=by
  fun_induction TriplesOk l with
  | case1=>simp[codeAmong] at hc
  | case2 a t b u x rest ih=>
    simp only[List.cons_append,codeAmong] at hc ⊢;split at hc
    . rename_i q
      rw[if_pos q];exact hc
    . rename_i q
      rw[if_neg q];exact ih h hc
  | case3 l h1 h2=>exact h.elim
theorem zV.code {T:List (Addr × Str)} {H H':Hp} {P c':Addr} {lpos:Pos} {q:Str} (t:zV H P c' lpos) (hm:∀ ps,H P=some (.tbl ps)->∃ more,H' P=some (.tbl (ps++more))) (hT:Tabs T H') (hmem:(P,q)∈T):H' c'=some (CodeO c' q):=by
  obtain⟨ps,h1,h2,h3⟩:=t;obtain⟨more,h4⟩:=hm ps h1;obtain⟨ps',e1,e2,e3⟩:=hT _ hmem;rw[h4] at e1;cases e1
  have:=yt ps.toList more.toList h2 h3;rw[<- Array.toList_append] at this;obtain⟨c,e4,e5⟩:=e3 lpos _ this;cases e4
  exact e5
end
end UL

namespace UL
open PySem PySem.Spec PyProof.Rows L2 LamX
variable [bo]
structure Jl (K:PySem.W.Frag) (f:Addr) (m0:Nat->Addr) (H0:Hp) (n0:Nat) (σ:Sg) (m:Nat->Addr) (H:Hp) (n:Nat):Prop where
  up:Up K m0 H0 n0 m H n
  sl:σ[1]?=some (some (.ref f))
abbrev JP:=Sg->(Nat->Addr)->Hp->Nat->Prop
class HM (K:PySem.W.Frag) (J:JP):Prop where
  up:∀ {σ m H n m' H' n'},J σ m H n->Up K m H n m' H' n'->J σ m' H' n'
  off:∀ {σ σ' m H n},J σ m H n->σ'[1]?=σ[1]?->J σ' m H n
instance {K:PySem.W.Frag} {f:Addr} {m0:Nat->Addr} {H0:Hp} {n0:Nat}:HM K (Jl K f m0 H0 n0):=⟨fun a b=>⟨a.up.trans b,a.sl⟩,fun a e=>⟨a.up,e.trans a.sl⟩⟩
section
variable {X:Cx} {J:JP}
def m6 (X:Cx) (J:JP) (m:Nat->Addr) (H:Hp) (h:Hm) (r:Fl) (D:Ends):Prop:=
  match r with
  | .nx su h'=>∀ σ' m' H',J σ' m' H' h'.length->Up X.K m H h.length m' H' h'.length->cT X.K X.mg m' H' h'.length su σ'->RH X.w X.K X.mg m' H' h'->D.nx σ' H'
  | .rt u h'=>∀ v m' H',Up X.K m H h.length m' H' h'.length->RU X.K X.mg m' H' h'.length u v->RH X.w X.K X.mg m' H' h'->D.rt v H'
  | .bk su h'=>∀ σ' m' H',J σ' m' H' h'.length->Up X.K m H h.length m' H' h'.length->cT X.K X.mg m' H' h'.length su σ'->RH X.w X.K X.mg m' H' h'->D.bk σ' H'
  | .ct su h'=>∀ σ' m' H',J σ' m' H' h'.length->Up X.K m H h.length m' H' h'.length->cT X.K X.mg m' H' h'.length su σ'->RH X.w X.K X.mg m' H' h'->D.ct σ' H'
  | .ex _ _ _ _=>False
  | .bad=>False
variable {m m1:Nat->Addr} {H H1:Hp} {h h1:Hm} {D:Ends} {σ:Sg} {su:En}
theorem m6.up {r:Fl} (p:Up X.K m H h.length m1 H1 h1.length) (f:m6 X J m H h r D):m6 X J m1 H1 h1 r D:=by
  cases r with
  | nx su h'=>exact fun σ' m' H' j p'=>f σ' m' H' j (p.trans p')
  | rt u h'=>exact fun v m' H' p'=>f v m' H' (p.trans p')
  | bk su h'=>exact fun σ' m' H' j p'=>f σ' m' H' j (p.trans p')
  | ct su h'=>exact fun σ' m' H' j p'=>f σ' m' H' j (p.trans p')
  | ex c fs su h'=>exact f
  | bad=>exact f
theorem m6.bind {α β:Type} {RV:Rel α β} {r:Rs α} {k:α->Hm->Fl} (f:m6 X J m H h (r.st su k) D) :
    Fin X σ m H h RV r (fun v H1=>∃ u h1 m1,Up X.K m H h.length m1 H1 h1.length/\RV m1 H1 h1.length u v/\RH X.w X.K X.mg m1 H1 h1/\m6 X J m1 H1 h1 (k u h1) D):=by
  cases r with
  | ok u h'=>exact fun v m' H' p r rh=>⟨u,h',m',p,r,rh,m6.up p f⟩
  | ex c fs h'=>exact False.elim f
  | bad=>exact f
end
section
variable {X:Cx} {J:JP} [jo:HM X.K J] {st:Stmt} {rest:List Stmt} {f g:FS} {e c:Expr} {fe:FE} {fc:FT} {pos pos':Pos} {x:Str} {i:Nat}
end
section
variable {X:Cx} {j jp k n:Nat} {f g:Addr} {x a0 a pv qual:Str} {pg:Arguments} {bg:List Stmt} {sg scope:Scope} {Ng:List Str} {fd:FuncData} {params:Arguments} {body e0:Expr} {p lpos pos:Pos} {fe fw:FE} {Φ:ky} {B:(U->Hm->Rs U)->FS}
end
end UL

namespace UL
open PySem PySem.Spec PyProof.Rows L2
variable [bo]
abbrev TDs:=Addr->V->V->Hp->(Hp->Prop)->Prop
section
variable {X:Cx} {kx vx tg iter:Expr} {ifs:List Expr} {scope:Scope} {own:List (Str × Nat)} {pos:Pos} {wi:TI} {g:TG} {tt:TT} {tk tv:TE} {td:TDs}
abbrev BkX (X:Cx) (scope:Scope) (s:Shared) (H:Hp) (C:Addr) (cl:List (Str × Addr)) (fp:List Addr):Cx:=X.blk s H scope (compEnvC scope cl C X.env) fp
abbrev semD (Y:Cx) (D:Addr) (y z:V) (H:Hp) (Q:Hp->Prop):Prop:=pB (∀ (E:Value->Shared->Prop) pins s σ u r,Inv Y pins σ H s->RelV y u->RelV z r ->
  wpAny (model Y.prog Y.w) Y.A (dictSet D u r) (fun _ s'=>∃ H',Inv Y pins σ H' s'/\Q H') E s)
end
section
variable {X:Cx} {tg iter kx vx:Expr} {ifs:List Expr} {scope:Scope} {own:List (Str × Nat)} {pos:Pos} {fi:FI} {g:FG} {t:FT} {fk fv:FE} {j:Nat} {ns:List Nat}
end
section
variable {X:Cx} {N:List Str} {sc:Scope} {fl:Str->Bool} {j:Nat} {Φ:ky} {pos:Pos} {kx vx:Expr} {fk fv:FE}
end
end UL

namespace UL
open PySem PySem.Spec PyProof.Rows L2
variable [bo]
def Ie:U->Option U
  | .tup (a::_)=>some a
  | _=>none
def E3:List (U × U)->List (U × U)->Option (List (U × U))
  | acc,[]=>some acc
  | acc,(k,_)::r=>match Ie k with
    | some a=>(match dO a with
      | some _=>E3 (lD acc a (.bl true)) r
      | none=>none)
    | none=>none
section
variable {m:Nat->Addr} {H H':Hp} {n:Nat} {K:PySem.W.Frag} {mg:Str->Option Value}
theorem gz.at_:∀ {kvs:List (U × U)} {xs:List gi} {i:Nat} {q:NestedKey} {b:Addr} {v:Value},gz K mg m H n kvs xs->xs[i]?=some (q,b,v)->∃ k u,kvs[i]?=some (k,u)/\RU K mg m H n k (.ref b)
  | [],_,_,_,_,_,r,e=>by
    have e0:_=[]:=r;subst e0;simp at e
  | (k,u)::us,xs,i,q,b,v,r,e=>by
    obtain⟨q',b',v',r',rfl,hk,h0,_,h2⟩:=r;cases i with
    | zero=>
      simp at e;obtain⟨rfl,rfl,rfl⟩:=e;exact⟨k,u,rfl,h0⟩
    | succ i=>
      obtain⟨k2,u2,e2,h3⟩:=gz.at_ h2 (i:=i) (by simpa using e)
      exact⟨k2,u2,by simpa using e2,h3⟩
def HI (w:World) (D:Addr) (o:HO) (ys:List gi):Prop:=(o=.dK []/\ys=[])\/∃ es ep,o=vH D es ep/\(D == sysModules)=false/\es.toList=ys.map (CZ w)/\(ys.map (·.1)).Nodup
theorem HI.CI {w:World} {D:Addr} {o:HO} {ys:List gi} (d:HI w D o ys):Mut (some o):=by
  rcases d with ⟨rfl,_⟩ | ⟨es,ep,rfl,_⟩<;>trivial
theorem HI.nd {Y:Cx} {D:Addr} {o:HO} {ys:List gi} {acc:List (U × U)} (d:HI Y.w D o ys) (e:H D=some o) (rn:gz Y.K Y.mg m H n acc ys) (le:ys.length<=sizeLine):mr Y H D ys:=by
  rcases d with ⟨rfl,rfl⟩ | ⟨es,ep,rfl,e1,e4,e5⟩
  . refine⟨fun pins σ s I=>?_,Nat.zero_le _,by rw[e];trivial⟩
    obtain⟨_,hn,vs,r0,o,es,ep,h1,h2,h3,h4,h5,_⟩:=I.hok _ _ e;cases r0
    have h6:es.toList=[]:=by
      cases q:es.toList with
      | nil=>rfl
      | cons a r=>rw[q] at h5;cases h5
    exact⟨⟨o,es,ep,h1,h2,h3,by rw[h6];rfl,fun x hx=>absurd hx (List.not_mem_nil),List.nodup_nil⟩,hn⟩
  . refine⟨fun pins σ s I=>?_,le,by rw[e];trivial⟩
    obtain⟨o,h1,h2,h3⟩:=(I.hok _ _ e).1;exact⟨⟨o,es,ep,h1,h2,h3,e4,fun x hx=>rn.keys x hx pins σ s I,e5⟩,e1⟩
end
section
variable {X:Cx} {N:List Str} {sc:Scope} {fl:Str->Bool} {j:Nat} {Φ:ky}
structure MSt (X:Cx) (m:Nat->Addr) (H:Hp) (n:Nat) (D:Addr) (kvs acc0:List (U × U)) (i:Nat) (H':Hp):Prop where
  out:∃ o acc ys,H'=upd H D o/\HI X.w D o ys/\gz X.K X.mg m H' n acc ys/\E3 acc (kvs.drop i)=some acc0/\acc.length<=i
theorem cT.length {K:PySem.W.Frag} {mg:Str->Option Value} {m:Nat->Addr} {H:Hp} {n:Nat}:∀ {su:En} {σ:Sg},cT K mg m H n su σ->su.length=σ.length
  | [],_,h=>by
    have e:_=[]:=h;subst e;rfl
  | none::su,_,h=>by
    obtain⟨v,r,rfl,h⟩:=h;simp[cT.length h]
  | some u::su,_,h=>by
    obtain⟨v,r,rfl,_,h⟩:=h;simp[cT.length h]
end
end UL

namespace UL
open PySem PySem.Spec PyProof.Rows L2
variable [bo]
section
variable {X:Cx}
def fD:GM:=fun u us h=>match u,us with
  | .str a,[.str b]=>(match Builtin.Str.occurrences (S a) (S b) 0 (S a).length 1 with
    | i::_=>some (.int (i:Nat),h)
    | []=>none)
  | _,_=>none
theorem zw:SM X "str.index" fD:=by
  intro m H h u us x vs u' h' Q r rs rh e post;unfold fD at e;split at e
  . rename_i a b
    simp only[RU] at r;obtain⟨v,e1,ry⟩:=gI rs;simp only[RU] at ry;split at e
    . rename_i i rest ho
      cases e
      subst e1 ry r;exact⟨_,mt_sindex,S a,S b,i,rest,rfl,rfl,ho,post_int rh post⟩
    . cases e
  . cases e
end
end UL

namespace UL
open PySem PySem.Spec PyProof.Rows L2
variable [bo]
section
variable {prog:Program} {w:World} {A:Around} {E:Value->Shared->Prop} {s:Shared}
end
section
variable {X:Cx}
end
end UL

namespace NeX
open PySem PySem.W PySem.Spec PySem.Builtin PyProof.Rows
section
variable {prog:Program} {w:World} {A:Around} {E:Value->Shared->Prop} {s:Shared} {K:Frag} {x C L f:Addr} {h₀:Heap} {m:Str->Option Value} {ox:Obj} {od:Option Obj} {b tb:Value}
end
end NeX
namespace UL
open PySem PySem.Spec PyProof.Rows L2
variable [bo]
structure NeOk (X:Cx) (j:Nat) (c:Str) (F:Fn):Prop where
  out:∃ C g k np,X.mg c=some (.ref C)/\Meth X.K C "__eq__" g/\dA X.prog X.w X.K X.mg X.base k g np F/\k + 1<=j/\PySem.W.findIn X.K (.ref C) "__ne__" = some (some (.builtin "object.__ne__"))/\PySem.W.mroIn X.K C (.type "object")=some true
section
variable {X:Cx} {j k np:Nat} {F:Fn}
end
end UL

namespace UL
open PySem PySem.Spec PyProof.Rows L2
variable [bo]
structure MeOk (X:Cx) (j:Nat) (mt c:Str) (F:Fn):Prop where
  out:∃ C g k np,X.mg c=some (.ref C)/\Meth X.K C mt g/\dA X.prog X.w X.K X.mg X.base k g np F/\k + 1<=j
section
variable {X:Cx} {j:Nat}
end
end UL
namespace UL
open PySem PySem.Spec PyProof.Rows L2
variable [bo]
end UL

namespace UL
open PySem PySem.Spec PyProof.Rows L2
variable [bo]
section
variable {X:Cx} {j:Nat}
inductive Fz (X:Cx) (H:Hp):List Addr->List (NestedKey × Addr × V)->Prop
  | nil:Fz X H [] []
  | cons {p:Addr} {q:NestedKey} {b:Addr} {y:V} {ps:List Addr} {es:List (NestedKey × Addr × V)}:SqT X.K H p [V.ref b,y]->m7 X H q b->Fz X H ps es->Fz X H (p::ps) ((q,b,y)::es)
inductive Fv:List (NestedKey × Addr × V)->List gi->Prop
  | nil:Fv [] []
  | cons {q:NestedKey} {b:Addr} {y:V} {v:Value} {es:List (NestedKey × Addr × V)} {xs:List gi}:RelV y v->Fv es xs->Fv ((q,b,y)::es) ((q,b,v)::xs)
end
end UL

namespace UL
open PySem PySem.Spec PyProof.Rows L2
variable [bo]
section
variable {X:Cx} {j:Nat}
end
end UL

namespace UL
open PySem PySem.Spec PyProof.Rows L2
variable [bo]
section
variable {X:Cx}
end
end UL

namespace L2
open PySem PySem.Spec PyProof.Rows
section
variable {X:Cx}
end
end L2
namespace UL
open PySem PySem.Spec PyProof.Rows L2
variable [bo]
section
variable {X:Cx}
end
end UL

namespace UL
open PySem PySem.Spec PyProof.Rows L2
variable [bo]
section
variable {X:Cx} {j:Nat}
end
end UL

namespace UL
open PySem PySem.Spec PyProof.Rows L2
variable [bo]
section
variable {X:Cx} {j:Nat}
end
end UL

namespace UL
open PySem PySem.Spec PyProof.Rows L2
variable [bo]
section
variable {X:Cx}
end
end UL

namespace PySem.SeqAt
open PySem PySem.Spec PySem.Builtin PyProof.Rows
open MeetsSeq MeetsSeq2 MeetsSeq3
end PySem.SeqAt
namespace L2
open PySem PySem.Spec PyProof.Rows
section
variable {X:Cx}
end
end L2
namespace UL
open PySem PySem.Spec PyProof.Rows L2
variable [bo]
section
variable {X:Cx}
end
end UL

namespace PySem.W
open PySem PySem.Calls PyProof.Rows
section
variable {prog:Program} {w:World} {A:Around} {E:Value->Shared->Prop} {s:Shared} {β:Type} {vs:List Value} {bs:List β} {enc:β->PyData} {R:Value->β->Prop}
end
end PySem.W
namespace UL
open PySem PySem.Spec PyProof.Rows L2
variable [bo]
section
variable {X:Cx}
end
end UL

namespace UL
open PySem PySem.Spec PyProof.Rows L2
variable [bo]
section
variable {W0:World} {K:PySem.W.Frag} {mg:Str->Option Value} {m m':Nat->Addr} {H H':Hp} {n n':Nat}
theorem cT.mC (p:FN K m H n m' H' n'):∀ (su:En) (σ:Sg),cT K mg m H n su σ->cT K mg m' H' n' su σ
  | [],_,h=>h
  | none::su,_,h=>by
    obtain⟨v,r,e,h⟩:=h;exact⟨v,r,e,cT.mC p su r h⟩
  | some u::su,_,h=>by
    obtain⟨v,r,e,h1,h⟩:=h;exact⟨v,r,e,RU.mC p _ _ h1,cT.mC p su r h⟩
end
section
variable {X:Cx} {tg e:Expr} {fe:FE}
end
end UL

namespace L2
open PySem PySem.Spec PyProof.Rows
section
variable {X:Cx}
end
end L2
namespace UL
open PySem PySem.Spec PyProof.Rows L2
variable [bo]
section
variable {X:Cx}
end
end UL

namespace UL
open PySem PySem.Spec PyProof.Rows L2
variable [bo]
section
variable {X:Cx} {tg iter tg1 iter1 elt:Expr} {ifs ifs1:List Expr} {scope:Scope} {own:List (Str × Nat)} {pos:Pos} {fi fi1:FI} {g g1:FG} {t t1:FT} {fe:FE} {j:Nat} {ns ns1 vs1:List Nat}
end
section
variable {X:Cx} {N:List Str} {sc:Scope} {fl:Str->Bool} {j i:Nat} {Φ:ky} {pos:Pos} {fe:FE}
end
end UL

namespace UL
open PySem PySem.Spec PyProof.Rows L2
variable [bo]
section
variable {X:Cx} {x1 x2 x3:Str} {c1 c2 c3:Value} {body suite:List Stmt} {b₀:Stmt} {p1 p2 p3 tpos pos pos':Pos} {kk:Nat} {tb:WX->TS} {ts:Addr->Value->Option Addr->TS}
end
section
variable {X:Cx} {N:List Str} {sc:Scope} {fl:Str->Bool} {j:Nat} {Φ:ky}
variable {x1 x2 x3:Str} {c1 c2 c3:Value} {body suite:List Stmt} {b₀:Stmt} {p1 p2 p3 tpos pos pos':Pos} {kk:Nat} {fb fh:FS} {tab:List (Str × Bool)} {qual:Str} {f:Addr}
end
end UL

namespace UL
open PySem PySem.Spec PyProof.Rows L2
section
variable {P:Program} {w:World} {A:Around} {E:Value->Shared->Prop} {s:Shared}
def Il (v:Value):Prop:=(∃ x t,v=Value.str x t)\/∃ i t,v=Value.int i t
abbrev JI (h h':Heap):Prop:=∀ b o vs n,h.get? b=some o->o.data=.seq vs n->h'.get? b=some o
structure PK (P:Program) (w:World) (h:Heap) (k:NestedKey) (b:Addr):Prop where
  is:(nestedKind P w).is h k b
  fl:∃ o vs n,h.get? b=some o/\o.cls=.type "tuple"/\o.data=.seq vs n/\∀ v∈vs.toList,Il v
theorem PK.keep {h h':Heap} {k:NestedKey} {b:Addr} (p:PK P w h k b) (e:JI h h'):PK P w h' k b:=by
  obtain⟨i,o,vs,n,h1,h2,h3,h4⟩:=p;exact⟨⟨NestedIs.at e k _ i.1,i.2⟩,o,vs,n,e _ _ _ _ h1 h3,h2,h3,h4⟩
abbrev KL:=List (Addr × NestedKey)
def kh (w:World) (p:Addr × NestedKey):Int:=p.2.hash w
def kr (w:World) (p:Addr × NestedKey):Int × Value:=(kh w p,.ref p.1)
structure FL (P:Program) (w:World) (h:Heap) (a:Addr) (L:KL) (es:Array (Int × Value)) (ep:Nat) (t:SetTable):Prop where
  ob:∃ o,h.get? a=some o/\o.ExactSet/\o.data=.set es ep t
  rows:es.toList=L.map (kr w)
  tab:TabOk t (L.map (kh w))
  nd:(L.map (·.2)).Nodup
  key:∀ p∈L,PK P w h p.2 p.1
  led:w.params.followText "set-order" = true\/t.led=true
  room:L.length * 5 < t.mask * 3
  few:L.length < 64
variable {a:Addr} {L:KL} {es:Array (Int × Value)} {ep:Nat} {t:SetTable}
abbrev begin (t:SetTable) (hh:Int):SetTable.Probe:=runAt t.mask (SetTable.bits hh % (t.mask + 1)) (SetTable.bits hh)
end
end UL

namespace UL
open PySem PySem.Spec PyProof.Rows L2
section
structure Jz (ks:KL) (i:Nat) (L:KL):Prop where
  sub:∀ p∈L,p∈ks.take i
  all:∀ p∈ks.take i,p.2∈L.map (·.2)
  le:L.length<=i
theorem Jz.next {ks L L':KL} {i:Nat} {x:Addr × NestedKey} (g:Jz ks i L) (h:ks[i]?=some x) (c1:x.2∈L.map (·.2)->L'=L) (c2:x.2 ∉ L.map (·.2)->L'.Perm (x::L)):Jz ks (i + 1) L':=by
  have tk:=take_next h
  by_cases c:x.2∈L.map (·.2)
  . rw[c1 c]
    refine⟨fun p hp=>?_,fun p hp=>?_,Nat.le_succ_of_le g.le⟩
    . rw[tk];exact List.mem_append_left _ (g.sub p hp)
    . rw[tk] at hp
      rcases List.mem_append.mp hp with hp | hp
      . exact g.all p hp
      . rw[List.mem_singleton.mp hp];exact c
  . have pm:=c2 c
    refine⟨fun p hp=>?_,fun p hp=>?_,by rw[pm.length_eq,List.length_cons];exact Nat.succ_le_succ g.le⟩
    . rw[tk]
      rcases List.mem_cons.mp (pm.mem_iff.mp hp) with rfl | hp
      . exact List.mem_append_right _ (List.mem_singleton.mpr rfl)
      . exact List.mem_append_left _ (g.sub p hp)
    . rw[(pm.map (·.2)).mem_iff,List.map_cons]
      rw[tk] at hp;rcases List.mem_append.mp hp with hp | hp
      . exact List.mem_cons_of_mem _ (g.all p hp)
      . rw[List.mem_singleton.mp hp];exact List.mem_cons_self
variable {P:Program} {w:World} {A:Around} {E:Value->Shared->Prop} {s:Shared}
theorem FL.keep {h h':Heap} {a:Addr} {L:KL} {es:Array (Int × Value)} {ep:Nat} {t:SetTable} (R:FL P w h a L es ep t) (ha:∀ o,h.get? a=some o->h'.get? a=some o) (hk:∀ p∈L,PK P w h' p.2 p.1):FL P w h' a L es ep t:=by
  obtain⟨o,ho,r⟩:=R.ob;exact⟨⟨o,ha o ho,r⟩,R.rows,R.tab,R.nd,hk,R.led,R.room,R.few⟩
abbrev freshT (w:World):SetTable:=.fresh 0 0 (!w.params.followText "set-order")
abbrev freshS (w:World):Obj:={ cls:=.type "set",dict:=none,data:=.set #[] 0 (freshT w) }
end
end UL

namespace UL
open PySem PySem.Spec PyProof.Rows L2
variable [bo]
section
variable {X:Cx} {m:Nat->Addr} {H:Hp} {n j:Nat}
end
end UL

namespace L2
open PySem PySem.Spec PyProof.Rows
section
variable {X:Cx}
end
end L2
namespace UL
open PySem PySem.Spec PyProof.Rows L2
variable [bo]
section
variable {X:Cx}
end
end UL

namespace L2
open PySem PySem.Spec PyProof.Rows
section
variable {X:Cx}
end
end L2
namespace UL
open PySem PySem.Spec PyProof.Rows L2
variable [bo]
section
variable {X:Cx}
end
end UL

namespace UL
open PySem PySem.Spec PyProof.Rows L2
variable [bo]
section
variable {X:Cx}
end
end UL

namespace UL
open PySem PySem.Spec PyProof.Rows L2
variable [bo]
section
variable {X:Cx}
end
end UL

namespace UL
open PySem PySem.Spec PyProof.Rows L2 CwR
variable [bo]
abbrev yb (X:Cx) (e:Expr) (σ:Sg) (H:Hp) (Q:VK):Prop:=pB (∀ pins s,1<=s.toks->Inv X pins σ H s->wpAny (model X.prog X.w) X.A (eval e X.env) (EP X pins σ Q) X.xe s)
abbrev Ca (X:Cx) (st:Stmt) (D:Ends) (σ:Sg) (H:Hp):Prop:=pB (∀ pins s,1<=s.toks->Inv X pins σ H s->wpAny (model X.prog X.w) X.A (exec st X.env) (SP X pins D) X.xe s)
abbrev sD (X:Cx) (st:List Stmt) (D:Ends) (σ:Sg) (H:Hp):Prop:=pB (∀ pins s,1<=s.toks->Inv X pins σ H s->wpAny (model X.prog X.w) X.A (execs st X.env) (SP X pins D) X.xe s)
theorem DX {X:Cx} {e:Expr}:PET X e (yb X e):=fun pins s σ H Q h0 I h=>h.out pins s h0 I
theorem xS {X:Cx} {st:Stmt}:PST X st (Ca X st):=fun pins s σ H D h0 I h=>h.out pins s h0 I
theorem jK {X:Cx} {st:List Stmt}:PSsT X st (sD X st):=fun pins s σ H D h0 I h=>h.out pins s h0 I
theorem uY {X:Cx} {e:Expr} {t:TE} {σ:Sg} {H:Hp} {Q:VK} (p:PET X e t) (q:t σ H Q):yb X e σ H Q:=⟨fun pins s h0 I=>p pins s σ H Q h0 I q⟩
theorem uZ {X:Cx} {st:Stmt} {t:TS} {D:Ends} {σ:Sg} {H:Hp} (p:PST X st t) (q:t D σ H):Ca X st D σ H:=⟨fun pins s h0 I=>p pins s σ H D h0 I q⟩
theorem qK {X:Cx} {st:List Stmt} {t:TS} {D:Ends} {σ:Sg} {H:Hp} (p:PSsT X st t) (q:t D σ H):sD X st D σ H:=⟨fun pins s h0 I=>p pins s σ H D h0 I q⟩
def CO (X:Cx) (e:Expr) (f:FE):Prop:=∀ su h σ H m,cT X.K X.mg m H h.length su σ->RH X.w X.K X.mg m H h->∀ Q,Fin X σ m H h (cW X) (f su h) Q->yb X e σ H Q
def HC (X:Cx) (st:Stmt) (f:FS):Prop:=∀ su h σ H m,cT X.K X.mg m H h.length su σ->RH X.w X.K X.mg m H h->∀ D,bY X m H h (f su h) D->Ca X st D σ H
def pG (X:Cx) (st:List Stmt) (f:FS):Prop:=∀ su h σ H m,cT X.K X.mg m H h.length su σ->RH X.w X.K X.mg m H h->∀ D,bY X m H h (f su h) D->sD X st D σ H
theorem pP {α:Type} {t:Sem α} {Q Q':α->Shared->Prop} {M:Model} {A:Around} {E:Value->Shared->Prop} {s:Shared} (h0:1<=s.toks) (h:wpAny M A t Q E s) (hQ:∀ a s,1<=s.toks->Q a s->Q' a s):wpAny M A t Q' E s:=
  wpAny_mono (wpAny_toks_of h0 h) (fun a s q=>hQ a s q.1 q.2) fun _ _ q=>q.2
def jM (fo:FE) (y z:List Nat):FE:=fun su h=>(fo su h).bind fun u h1=>match u with
  | .str x=>if x.length + (x.length + 1) * z.length<=16777216/\1<=y.length then .ok (.str (PySem.StrLaws.replL y z x)) h1 else .bad
  | _=>.bad
section
variable {X:Cx} {o e c a b:Expr} {fo fe fa fb:FE} {fc:FT} {st:Stmt} {rest body:List Stmt} {f g:FS} {pos:Pos}
theorem iE (h:SS X st f):HC X st f:=fun su h' σ H m rs rh D fin=>⟨fun pins s _ I=>(h su h' σ H m rs rh D fin).out pins s I⟩
theorem EC (h:zS X rest f):pG X rest f:=fun su h' σ H m rs rh D fin=>⟨fun pins s _ I=>(h su h' σ H m rs rh D fin).out pins s I⟩
theorem FJ {x y z:List Nat} (hy:1<=y.length):Txt.replace (S x) (S y) (S z)=S (PySem.StrLaws.replL y z x):=by
  have h:=PySem.StrLaws.replace_list (x:=S x) (y:=S y) (z:=S z) (by rw[S_len];exact hy)
  have e:∀ l:List Nat,(S l).cps.toList=l:=fun l=>by simp[S]
  rw[e,e,e] at h;rw[<- h,kz]
theorem zk {su:En} {h:Hm} {σ:Sg} {H:Hp} {m:Nat->Addr} {Q:VK} {y z:List Nat} (fin:Fin X σ m H h (cW X) (jM fo y z su h) Q) :
    Fin X σ m H h (cW X) (fo su h) fun v H1=>∃ x,v=.str x/\x.length + (x.length + 1) * (S z).length<=16777216/\Q (.str (Txt.replace x (S y) (S z))) H1:=by
  refine(Fin.bind (RV:=cW X) fin).imp fun v H1 ⟨u,h1,m1,up1,r1,rh1,fin1⟩=>?_
  split at fin1
  . rename_i x
    split at fin1
    . rename_i hb
      simp only[cW,RU] at r1;subst r1;refine⟨S x,rfl,by rw[S_len,S_len];exact hb.1,?_⟩
      rw[FJ hb.2];exact fin1 _ m1 H1 .refl (by simp only[cW,RU]) rh1
    . exact False.elim fin1
  . exact False.elim fin1
theorem uX {y z:Str} {yl zl:List Nat} {j k:Nat} {c0 c1 apos:Pos} (ho:SE X o fo) (ey:y=S yl:=by decide +kernel) (ez:z=S zl:=by decide +kernel) (hyz:(y == z)=false:=by decide)
    (hst:starEach [.Constant (.str y) j c0,.Constant (.str z) k c1] X.env=[(false,eval (.Constant (.str y) j c0) X.env),(false,eval (.Constant (.str z) k c1) X.env)]:=by rfl)
    (hbase:attributeBase o "replace" X.env (eval o X.env)=eval o X.env:=by rfl) (hline:(apos.endLine == pos.line)=true:=by rfl) :
    CO X (.Call (.Attribute o "replace" apos) [.Constant (.str y) j c0,.Constant (.str z) k c1] [] pos) (jM fo yl zl):=by
  intro su h σ H m rs rh Q fin;subst ey ez;exact uY (pet_replC bO hyz hst hbase hline) (ho su h σ H m rs rh _ (zk fin))
theorem Fp {i:Nat} {x:Str} {pos':Pos} (S:So X i x) (G:GoodW X) (he:CO X e fe) (hs:swapsWith e (some (.Name x pos')) pos.line X.env=pure false:=by rfl):HC X (.Assign [.Name x pos'] e pos) (bf i fe):=by
  intro su h σ H m rs rh D fin;refine⟨fun pins s h0 I=>?_⟩
  refine wpAny_Assign_Name (thn ((he su h σ H m rs rh _ (bY.bind (RV:=cW X) rs fin)).out pins s h0 I) fun v s1 ⟨y,H1,I1,ry,u,h1,m1,up1,r1,rh1,fin1⟩=>?_) hs
  exact store_ok I1 G.nd S.ix S.loc ry (fun s2 I2=>⟨_,H1,I2,fin1 _ m1 H1 .refl ((rs.up up1).set i r1) rh1⟩) S.fn
theorem EB:pG X [] aH:=EC bh
theorem dS (h1:HC X st f) (h2:pG X rest g):pG X (st::rest) (aA f g):=by
  intro su h σ H m rs rh D fin;refine qK (psst_cons xS jK) (h1 su h σ H m rs rh { D with nx:=sD X rest D } ?_)
  unfold aA at fin;cases e:f su h with
  | nx su' h'=>
    rw[e] at fin;exact fun σ' m' H' p rs' rh'=>h2 su' h' σ' H' m' rs' rh' D (bY.up p fin)
  | rt u h'=>rw[e] at fin;exact fin
  | bk su' h'=>rw[e] at fin;exact fin
  | ct su' h'=>rw[e] at fin;exact fin
  | ex c fs su' h'=>rw[e] at fin;exact fin
  | bad=>rw[e] at fin;exact fin
theorem sI (h1:HC X st f):pG X [st] f:=fun su h σ H m rs rh D fin=>qK (psst_one xS) (h1 su h σ H m rs rh D fin)
theorem Hn {a b:List Stmt} (hc:ST X c fc) (ha:pG X a f) (hb:pG X b g):HC X (.If c a b pos) (cJ fc f g):=by
  intro su h σ H m rs rh D fin;refine uZ (pst_if iA jK jK) (hc su h σ H m rs rh _ ((bY.bind (RV:=sV) rs fin).imp fun k H1 ⟨k',h1,m1,up1,r1,rh1,fin1⟩=>?_))
  cases r1
  cases k with
  | true=>rw[if_pos rfl] at fin1 ⊢;exact ha su h1 σ H1 m1 (rs.up up1) rh1 D fin1
  | false=>rw[if_neg Bool.false_ne_true] at fin1 ⊢;exact hb su h1 σ H1 m1 (rs.up up1) rh1 D fin1
theorem BR {tg iter:Expr} {wi:TI} {g:TG} {tb:TS} (hp:PassesOwn (model X.prog X.w) X.A X.env X.xe) (hc:X.calm=true) (hi:PI X tg iter wi) (hg:PG X tg g) (hb:PSsT X body tb)
    (hs:∀ x,foldedSetIterable iter X.env x=pure x:=by intro _;rfl):PST X (.For tg iter body [] pos) (tFor wi g tb):=by
  intro pins s σ H D h0 I h;refine wpAny_For (pP h0 (hi.run pins s σ H _ I h) fun v s1 t1 h1=>pP t1 h1 fun itv s2 t2 h2=>?_) hs
  obtain⟨it,fp,tn,J,H2,e,I2,T,st2,f2,W,⟨m0,w0⟩,turn⟩:=h2;subst e;have stat:∀ {H':Hp},(∀ b∈fp,H' b=none)->∀ b∈fp,FpOk X pins H' b:=fun hn b hb=>⟨hn b hb,(f2 b hb).2⟩
  refine codeAny_forLoop_any (fun n s'=>1<=s'.toks/\∃ i σ' H',Inv X pins σ' H' s'/\tn i s'.heap/\(∀ b∈fp,H' b=none)/\W i n σ' H') ?_ m0 ⟨t2,0,σ,H2,I2,st2,fun b hb=>(f2 b hb).1,w0⟩
  rintro n s3 ⟨t3,i,σ3,H3,I3,st3,fr3,w3⟩;rcases turn i n σ3 H3 w3 with ⟨stop,qn⟩ | ⟨go,N,hN,step⟩
  . refine wpAny_passesOwn hp (thn (T.done X rfl rfl rfl hc i pins s3 σ3 H3 X.xe I3 (stat fr3) st3 stop) fun r s4 ⟨hr,I4⟩=>?_)
    subst hr;exact wpAny_execs_nil ⟨σ3,H3,I4,qn⟩
  . refine wpAny_passesOwn hp (pP t3 (T.item X rfl rfl rfl hc i pins s3 σ3 H3 X.xe I3 (stat fr3) st3 go) fun r s4 t4 ⟨u,hr,h4⟩=>?_)
    subst hr;refine wpAny_passesOwn hp (pP t4 h4 fun _ s5 t5 ⟨x,H5,I5,r5,y5,st5,fr5⟩=>?_)
    have I5':=I5.pinned (stat fr5) (T.obj _ _ st5);refine wpAny_passesOwn hp (pP t5 (hg.run _ s5 σ3 H5 x u _ I5' r5 (step x H5 y5)) fun _ s6 t6 ⟨σ6,H6,I6,q6⟩=>?_)
    refine wpAny_passesOwn hp (pP t6 (hb _ s6 σ6 H6 _ t6 I6 q6) fun f s7 t7 q7=>?_)
    have again:∀ {σ7:Sg} {H7:Hp},Inv X (pins++pinsAt fp s5.heap) σ7 H7 s7->N σ7 H7->∃ m,m < n/\1<=s7.toks/\∃ i σ' H',Inv X pins σ' H' s7/\tn i s7.heap/\(∀ b∈fp,H' b=none)/\W i m σ' H':=fun {σ7 H7} I7 n7=>by
      obtain⟨m',hm,w7⟩:=hN σ7 H7 n7;refine⟨m',hm,t7,i + 1,σ7,H7,I7.unpinned,T.keep _ _ _ st5 fun b hb o e=>(I7.pin (b,o) (List.mem_append_right _ (List.mem_append_right _ (mem_pinsAt hb e)))).1,fun b hb=>?_,w7⟩
      obtain⟨o,e,d⟩:=T.obj _ _ st5 b hb;exact(I7.pin (b,o) (List.mem_append_right _ (List.mem_append_right _ (mem_pinsAt hb e)))).2.1
    cases f with
    | next=>obtain⟨σ7,H7,I7,n7⟩:=q7;exact again I7 n7
    | cont=>obtain⟨σ7,H7,I7,n7⟩:=q7;exact again I7 n7
    | brk=>obtain⟨σ7,H7,I7,q7⟩:=q7;exact⟨σ7,H7,I7.unpinned,q7⟩
    | ret v=>obtain⟨x7,σ7,H7,I7,r7,q7⟩:=q7;exact⟨x7,σ7,H7,I7.unpinned,r7,q7⟩
theorem EA {tg iter:Expr} {fi:FI} {g:FG} {fb:FS} {ns:List Nat} (hp:PassesOwn (model X.prog X.w) X.A X.env X.xe) (hc:X.calm=true) (hi:wV X tg iter fi) (hg:SG X tg g ns) (hb:pG X body fb) (hs:∀ x,foldedSetIterable iter X.env x=pure x:=by intro _;rfl):HC X (.For tg iter body [] pos) (gb fi g fb):=by
  intro su h σ H m rs rh D fin;refine uZ (BR hp hc oC BO jK hs) (hi su h σ H m rs rh _ ((bY.bind (RV:=cF X) rs fin).imp fun J H1 ⟨src,h1,m1,up1,rj,rh1,fin1⟩=>?_))
  refine⟨fun i n σ' H'=>∃ su' h' m',cF X m' H' h'.length src J/\cT X.K X.mg m' H' h'.length su' σ'/\RH X.w X.K X.mg m' H' h'/\bY X m' H' h' (cY src g fb n i su' h') D,⟨gZ,su,h1,m1,rj,rs.up up1,rh1,fin1⟩,?_⟩
  rintro i n σ' H' ⟨su',h',m',rj',rs',rh',fin'⟩;cases n with
  | zero=>exact False.elim fin'
  | succ n=>
    have now:=rj' m' H' h' .refl rh' i;unfold cY at fin';cases e:src i h' with
    | none=>rw[e] at fin';exact False.elim fin'
    | some o=>
      rw[e] at fin' now;cases o with
      | none=>exact .inl ⟨now,fin' σ' m' H' .refl rs' rh'⟩
      | some u=>
        obtain⟨go,yl⟩:=now;refine .inr ⟨go,fun σ2 H2=>∃ su2 h2 m2,cF X m2 H2 h2.length src J/\cT X.K X.mg m2 H2 h2.length su2 σ2/\RH X.w X.K X.mg m2 H2 h2/\bY X m2 H2 h2 (cY src g fb n (i + 1) su2 h2) D,fun σ2 H2 w=>⟨n,Nat.lt_succ_self _,w⟩,fun x H'' y=>?_⟩
        obtain⟨upy,ry,rhy⟩:=yl x H'' y;refine⟨fun pins s w I rw'=>?_⟩
        have fin2:bY X m' H'' h' ((g u su' h').st su' fun su1 h1=>match fb su1 h1 with
            | .nx su' h'=>cY src g fb n (i + 1) su' h'
            | .ct su' h'=>cY src g fb n (i + 1) su' h'
            | .bk su' h'=>.nx su' h'
            | r=>r) D:=bY.up upy fin'
        refine thn (hg u x su' h' σ' H'' m' ry (rs'.up upy) rhy _ (bY.bind (RV:=cT X.K X.mg) (rs'.up upy) fin2) pins s w I rw') fun _ s' ⟨σ2,H2,I2,_,su2,h2,m2,up2,rs2,rh2,fin3⟩=>⟨σ2,H2,I2,?_⟩
        refine hb su2 h2 σ2 H2 m2 rs2 rh2 _ ?_;have rj2:=(rj'.up upy).up up2;cases e3:fb su2 h2 with
        | nx su3 h3=>rw[e3] at fin3;exact fun σ3 m3 H3 p r q=>⟨su3,h3,m3,rj2.up p,r,q,bY.up p fin3⟩
        | ct su3 h3=>rw[e3] at fin3;exact fun σ3 m3 H3 p r q=>⟨su3,h3,m3,rj2.up p,r,q,bY.up p fin3⟩
        | bk su3 h3=>rw[e3] at fin3;exact fin3
        | rt u h3=>rw[e3] at fin3;exact fin3
        | ex c fs su3 h3=>rw[e3] at fin3;exact fin3
        | bad=>rw[e3] at fin3;exact fin3
end
end UL

namespace UL
open PySem PySem.Spec PyProof.Rows L2 CwR
variable [bo]
section
variable {X:Cx}
theorem vm {α:Type} {t:Sem α} {Q Q':α->Shared->Prop} {M:Model} {A:Around} {E:Value->Shared->Prop} {s:Shared} (h0:1<=s.toks) (h:wpAny M A t Q (fun _ _=>False) s) (hQ:∀ a s,1<=s.toks->Q a s->Q' a s):wpAny M A t Q' E s:=
  wpAny_mono (wpAny_toks_of h0 h) (fun a s q=>hQ a s q.1 q.2) fun _ _ z=>False.elim z.2
theorem AW {pins:List (Addr × Obj)} {s:Shared} {σ:Sg} {H:Hp} {Q:VK} {elt tg iter:Expr} {ifs:List Expr} {scope:Scope} {own:List (Str × Nat)} {pos pos':Pos} {wi:TI} {g:TG} {tt:TT} {te:TE} {use:Option (Value->Sem Unit)} {Qf:Value->Shared->Prop} (t0:1<=s.toks)
    (hc:X.calm=true) (hN:X.N.Nodup) (I:Inv X pins σ H s) (hi:PI X tg iter wi) (ok:BlkOk X.N X.env.scope scope own)
    (hg:∀ (s:Shared) (H:Hp) (C:Addr) (cl:List (Str × Addr)) (fp:List Addr),PG (X.blk s H scope (compEnvC scope cl C X.env) fp) tg g) (ht:∀ (s:Shared) (H:Hp) (C:Addr) (cl:List (Str × Addr)) (fp:List Addr),PTs (X.blk s H scope (compEnvC scope cl C X.env) fp) ifs tt)
    (he:∀ (s:Shared) (H:Hp) (C:Addr) (cl:List (Str × Addr)) (fp:List Addr),PET (X.blk s H scope (compEnvC scope cl C X.env) fp) elt te) (hs:∀ x,foldedSetIterable iter X.env x=pure x)
    (h:tLc wi g tt te (own.map (·.2)) σ H Q)
    (hRR:∀ D C s' m H',Inv X pins σ H' s'->Q (.ref D) H'->s'.heap.Ns C m->FpOk X pins H' C->compPost (model X.prog X.w) X.A X.xe use Qf (.ref D) C (.ok .next) s') :
    wpAny (model X.prog X.w) X.A (comprehension (.ListComp elt [⟨tg,iter,ifs,0⟩] scope pos) scope X.env pos' (newList []) false (eval iter X.env) use) Qf X.xe s:=by
  have hfree:∀ y∈scope.names,y.2=.free->∃ c,X.env.cells.lookup y.1=some c:=fun y hy e=>by
    rcases ok.free y hy e with k | k
    . exact I.ok.has _ (.inl k)
    . exact I.ok.has _ (.inr k)
  refine wpAny_comprehension_free (use:=use) rfl hs (closure_ok hfree) ok.kind (fun y hy e=>by rw[ok.uniq y hy,e])
    (pP t0 (hi.run pins s σ H _ I h) fun xv s1 t1 hx=>pP t1 hx fun itv s2 t2 h2=>?_)
  obtain⟨it,fp,tn,J,H2,e,I2,T,st2,f2,q⟩:=h2;subst e;refine wpAny_newObj_type (newEnv_comp ?_) (by show 0<=sizeLine;decide)
  generalize hD:s2.heap.objs.size=D
  have hDn:H2 D=none:=I2.hok.fresh (Nat.le_of_eq hD);obtain⟨W,⟨m0,w0⟩,turn⟩:=q D hDn
  generalize hs3:({ s2 with heap:=s2.heap.push { cls:=.type "list",data:=.seq ([]:List Value).toArray } }:Shared)=s3
  have t3:1<=s3.toks:=by rw[<- hs3];exact t2
  have I3:Inv X pins σ (upd H2 D (.lst [])) s3:=by
    rw[<- hs3];refine I2.laid (t':=s2.toks) (fun b o e=>Heap.get?_push_of_some _ e) (Nat.le_of_eq hD) ⟨Nat.zero_le _,[],0,.nil,?_⟩
    rw[<- hD];exact Heap.get?_push_size _ rfl
  have h3:s3.heap=s2.heap.push { cls:=.type "list",data:=.seq ([]:List Value).toArray }:=by rw[<- hs3]
  have sz:∀ b∈fp,b < s2.heap.objs.size:=fun b hb=>by
    obtain⟨o,e,_⟩:=T.obj _ _ st2 b hb;exact Heap.lt_size e
  have f3:∀ b∈fp,FpOk X pins (upd H2 D (.lst [])) b/\b < s3.heap.objs.size:=fun b hb=>by
    have hlt:=sz b hb;refine⟨⟨?_,(f2 b hb).2⟩,by rw[h3,Heap.size_push];exact Nat.lt_succ_of_lt hlt⟩
    rw[upd_ne (by rw[<- hD];exact Nat.ne_of_lt hlt)]
    exact(f2 b hb).1
  have st3:tn 0 s3.heap:=T.keep _ _ _ st2 fun b _ o e=>by rw[h3];exact Heap.get?_push_of_some _ e
  have I4:=block_start I3 ok hN f3;have pg:=hg s3 (upd H2 D (.lst [])) s3.heap.objs.size (cellsFrom (s3.heap.objs.size + 1) scope.names (cloFrom X.env.cells scope.names [])) fp;have pt:=ht s3 (upd H2 D (.lst [])) s3.heap.objs.size (cellsFrom (s3.heap.objs.size + 1) scope.names (cloFrom X.env.cells scope.names [])) fp;have pe:=he s3 (upd H2 D (.lst [])) s3.heap.objs.size (cellsFrom (s3.heap.objs.size + 1) scope.names (cloFrom X.env.cells scope.names [])) fp;show codeAny _ _ (.compStart (.ListComp elt [⟨tg,iter,ifs,0⟩] scope pos) 0 (.ref it) (.ref D) (compEnvC scope (cellsFrom (s3.heap.objs.size + 1) scope.names (cloFrom X.env.cells scope.names [])) s3.heap.objs.size X.env)) (compPost (model X.prog X.w) X.A X.xe use Qf (.ref D) s3.heap.objs.size) { s3 with heap:=pushCells (s3.heap.push { cls:=.type "dict",data:=.dict #[] }) scope.names }
  have nfp:∀ b∈fp,(upd H2 D (.lst [])) b=none:=fun b hb=>(f3 b hb).1.1
  generalize hce:compEnvC scope (cellsFrom (s3.heap.objs.size + 1) scope.names (cloFrom X.env.cells scope.names [])) s3.heap.objs.size X.env=ce at I4 pg pt pe ⊢
  have cL:ce.locals=s3.heap.objs.size:=by subst hce;rfl
  generalize hH3:upd H2 D (.lst [])=H3 at I3 I4 pg pt pe w0 nfp f3
  generalize hs4:({ s3 with heap:=pushCells (s3.heap.push { cls:=.type "dict",data:=.dict #[] }) scope.names }:Shared)=s4 at I4 ⊢
  have t4:1<=s4.toks:=by rw[<- hs4];exact t3
  have st4:tn 0 s4.heap:=T.keep _ _ _ st3 fun b _ o e=>by rw[<- hs4];exact pushCells_keeps _ _ _ _ (Heap.get?_push_of_some _ e)
  have stat:∀ {σ':Sg} {H':Hp} {s':Shared},Inv (X.blk s3 H3 scope ce fp) [] σ' H' s'->(∀ b∈fp,H' b=none)->∀ b∈fp,FpOk (X.blk s3 H3 scope ce fp) [] H' b:=fun {σ' H' s'} I' hn b hb=>
    ⟨hn b hb,(I'.ok.exf b hb).1,I'.ok.exfs b hb,.inl hb,fun x c e=>(I'.ok.exf b hb).2 x c e,fun p hp=>absurd (show p∈([]:List (Addr × Obj))++[] from hp) (by simp)⟩
  have loop:codeAny (model X.prog X.w) X.A (.compLoop (.ListComp elt [⟨tg,iter,ifs,0⟩] scope pos) 0 (.ref it) (.ref D) ce) (compPost (model X.prog X.w) X.A X.xe use Qf (.ref D) s3.heap.objs.size) s4:=by
    refine compLoop_any (fun n s'=>1<=s'.toks/\∃ i H',Inv (X.blk s3 H3 scope ce fp) [] (L2.wipe σ (own.map (·.2))) H' s'/\tn i s'.heap/\(∀ b∈fp,H' b=none)/\W i n H') ?_ m0 ⟨t4,0,H3,I4,st4,nfp,w0⟩
    rintro n s5 ⟨t5,i,H5,I5,st5,n5,w5⟩;rcases turn i n H5 w5 with ⟨stop,qq⟩ | ⟨go,Nx,hNx,step⟩
    . have td:=T.done (X.blk s3 H3 scope ce fp) rfl rfl rfl hc i [] s5 _ H5 (fun _ _=>False) I5 (stat I5 n5) st5 stop
      refine thnF td fun r s6 ⟨hr,I6⟩=>?_
      subst hr;have I7:Inv X pins σ H5 s6:=I3.call' (ch:=fp) I6.os I6.base I6.hok I6.bare fun b hb=>⟨(f3 b hb).1.2.2.2.1,(f3 b hb).1.2.1,(f3 b hb).1.2.2.2.2.1,(f3 b hb).1.2.2.2.2.2⟩
      have nC:H5 s3.heap.objs.size=none:=by
        have z:H5 ce.locals=none:=I6.free;rw[cL] at z;exact z
      obtain⟨m,hn,_⟩:=I6.loc;have hn:s6.heap.Ns ce.locals m:=hn;rw[cL] at hn;exact hRR D s3.heap.objs.size s6 m H5 I7 qq hn (I3.fpOk (Nat.le_refl _) nC)
    . have ti:=T.item (X.blk s3 H3 scope ce fp) rfl rfl rfl hc i [] s5 _ H5 (fun _ _=>False) I5 (stat I5 n5) st5 go
      refine vm t5 ti fun r s6 t6 ⟨u,hr,h6⟩=>?_
      subst hr;refine vm t6 h6 fun _ s7 t7 ⟨x,H7,I7,r7,y7,st7,n7⟩=>?_
      have I7':=I7.pinned (stat I7 n7) (T.obj _ _ st7);refine vm t7 (pg.run _ s7 _ H7 x u _ I7' r7 (step x H7 y7)) fun _ s8 t8 ⟨σ8,H8,I8,hw8,q8⟩=>?_
      refine vm t8 (pt.run _ s8 σ8 H8 _ I8 q8) fun b s9 t9 ⟨H9,I9,q9⟩=>?_
      have fin:∀ {s':Shared} {H':Hp},1<=s'.toks->Inv (X.blk s3 H3 scope ce fp) ([]++pinsAt fp s7.heap) σ8 H' s'->Nx H'->∃ m,m < n/\1<=s'.toks/\∃ i H',Inv (X.blk s3 H3 scope ce fp) [] (L2.wipe σ (own.map (·.2))) H' s'/\tn i s'.heap/\(∀ b∈fp,H' b=none)/\W i m H':=fun {s' H'} t' I' nx=>by
        obtain⟨m',hm,w'⟩:=hNx H' nx
        have pin':∀ b∈fp,∀ o,s7.heap.get? b=some o->s'.heap.get? b=some o/\H' b=none:=fun b hb o e=>
          let z:=I'.pin (b,o) (List.mem_append_right _ (List.mem_append_right _ (mem_pinsAt hb e)))
          ⟨z.1,z.2.1⟩
        have hl:(L2.wipe σ (own.map (·.2))).length=σ8.length:=by rw[<- hw8,wipe_length]
        refine⟨m',hm,t',i + 1,H',(I'.unpinned (pins:=[])).weak hl (fun j v e=>?_),T.keep _ _ _ st7 fun b hb o e=>(pin' b hb o e).1,fun b hb=>?_,w'⟩
        . rw[<- hw8] at e
          exact(wipe_some e).1
        . obtain⟨o,e,_⟩:=T.obj _ _ st7 b hb
          exact(pin' b hb o e).2
      cases b with
      | false=>
        simp only[Bool.false_eq_true,if_false] at q9 ⊢;exact fin t9 I9 q9
      | true=>
        simp only[if_true] at q9 ⊢;refine vm t9 (pe _ s9 σ8 H9 _ t9 I9 q9) fun z s10 t10 ⟨yv,H10,I10,r10,acc,hD10,hz10,nx⟩=>?_
        exact pP t10 (app_ok (X:=X.blk s3 H3 scope ce fp) (Q:=fun _ s'=>Inv (X.blk s3 H3 scope ce fp) ([]++pinsAt fp s7.heap) σ8 (upd H10 D (.lst (acc++[yv]))) s') I10 hD10 hz10 r10 fun s11 I11=>I11) fun _ s11 t11 I11=>fin t11 I11 nx
  exact codeAny_compStart_list loop (T.self X.A 0 _ _ _ st4 loop)
theorem DW {elt tg iter:Expr} {ifs:List Expr} {scope:Scope} {own:List (Str × Nat)} {pos:Pos} {wi:TI} {g:TG} {tt:TT} {te:TE} (hc:X.calm=true) (hN:X.N.Nodup) (hi:PI X tg iter wi) (ok:BlkOk X.N X.env.scope scope own)
    (hg:∀ (s:Shared) (H:Hp) (C:Addr) (cl:List (Str × Addr)) (fp:List Addr),PG (X.blk s H scope (compEnvC scope cl C X.env) fp) tg g) (ht:∀ (s:Shared) (H:Hp) (C:Addr) (cl:List (Str × Addr)) (fp:List Addr),PTs (X.blk s H scope (compEnvC scope cl C X.env) fp) ifs tt)
    (he:∀ (s:Shared) (H:Hp) (C:Addr) (cl:List (Str × Addr)) (fp:List Addr),PET (X.blk s H scope (compEnvC scope cl C X.env) fp) elt te) (hs:∀ x,foldedSetIterable iter X.env x=pure x:=by intro _;rfl) :
    PET X (.ListComp elt [⟨tg,iter,ifs,0⟩] scope pos) (tLc wi g tt te (own.map (·.2))):=by
  intro pins s σ H Q t0 I h;rw[eval_ListComp];refine AW t0 hc hN I hi ok hg ht he hs h fun D C s' m H' I' q hn f=>⟨m,hn,fun h'' sb=>?_⟩
  obtain⟨f0,f1,f2,f3,f4,f5⟩:=f;exact⟨.ref D,H',I'.turned (t':=s'.toks) (fun b o hb e=>(sb.2 b hb).trans e) f0 f1 f3 f4 f5,rfl,q⟩
end
section
variable {X:Cx} {tg iter elt:Expr} {ifs:List Expr} {scope:Scope} {own:List (Str × Nat)} {pos:Pos} {fi:FI} {g:FG} {t:FT} {fe:FE} {j:Nat} {ns:List Nat}
def KG (X:Cx) (scope:Scope) (e:Expr):TE:=fun σ H Q=>∀ (s:Shared) (H0:Hp) (C:Addr) (cl:List (Str × Addr)) (fp:List Addr),yb (X.blk s H0 scope (compEnvC scope cl C X.env) fp) e σ H Q
theorem IB {s:Shared} {H:Hp} {C:Addr} {cl:List (Str × Addr)} {fp:List Addr}:PET (X.blk s H scope (compEnvC scope cl C X.env) fp) elt (KG X scope elt):=fun pins s' σ H' Q h0 I h=>(h s H C cl fp).out pins s' h0 I
theorem Gm {Q:VK} {su:En} {h:Hm} {σ:Sg} {H:Hp} {m:Nat->Addr} (G:Good X j) (rs:cT X.K X.mg m H h.length su σ) (rh:RH X.w X.K X.mg m H h)
    (hi:wV X tg iter fi) (fin:Fin X σ m H h (cW X) (bj fi g t fe (own.map (·.2)) su h) Q)
    (hg:∀ Y,sU X scope j Y->SG Y tg g ns) (ht:∀ Y,sU X scope j Y->CH Y ifs t) (he:∀ Y,sU X scope j Y->CO Y elt fe)
    (hns:∀ i∈ns,i∈own.map (·.2)):tLc (B9 X tg iter) (gB X scope tg) (tB X scope ifs) (KG X scope elt) (own.map (·.2)) σ H Q:=by
  refine hi su h σ H m rs rh _ ((Fin.bind (RV:=cF X) fin).imp fun J H1 ⟨src,h1,m1,up1,rj,rh1,fin1⟩=>?_)
  intro D hD;have rs1:=rs.up up1;have up2:=Up.new (K:=X.K) (m:=m1) (n:=h1.length) (p:=D) (o:=.lst []) hD;have rh2:=rh1.new (ob:=.lst []) hD ⟨[],upd_same,by simp only[a5]⟩
  refine⟨fun i n H'=>∃ h' m',h1.length < h'.length/\m' h1.length=D/\cF X m' H' h'.length src J/\cT X.K X.mg m' H' h'.length su σ/\RH X.w X.K X.mg m' H' h'/\Fin X σ m' H' h' (cW X) ((bQ src g t fe h1.length (iw su (own.map (·.2))) n i h').bind fun _ h''=>.ok (.ref h1.length) h'') Q,
    ⟨gZ,h1++[.lst []],ext m1 h1.length D,by rw[len_app];exact Nat.lt_succ_self _,cX,by rw[len_app];exact rj.up up2,by rw[len_app];exact rs1.up up2,rh2,?_⟩,?_⟩
  . exact Fin.up (h1:=h1++[.lst []]) (by rw[len_app];exact up2) fin1
  . rintro i n H' ⟨h',m',hlt,hmD,rj',rs',rh',fin'⟩
    cases n with
    | zero=>exact False.elim fin'
    | succ n=>
      have now:=rj' m' H' h' .refl rh' i;unfold bQ at fin';cases e:src i h' with
      | none=>rw[e] at fin';exact False.elim fin'
      | some o=>
        rw[e] at fin' now;cases o with
        | none=>
          refine .inl ⟨now,?_⟩;have:=fin' (.ref (m' h1.length)) m' H' .refl (by simp only[cW,RU];exact⟨hlt,trivial⟩) rh'
          rw[hmD] at this;exact this
        | some u=>
          obtain⟨go,yl⟩:=now
          refine .inr ⟨go,fun H2=>∃ h2 m2,h1.length < h2.length/\m2 h1.length=D/\cF X m2 H2 h2.length src J/\cT X.K X.mg m2 H2 h2.length su σ/\RH X.w X.K X.mg m2 H2 h2/\Fin X σ m2 H2 h2 (cW X) ((bQ src g t fe h1.length (iw su (own.map (·.2))) n (i + 1) h2).bind fun _ h''=>.ok (.ref h1.length) h'') Q,
            fun H2 w=>⟨n,Nat.lt_succ_self _,w⟩,fun x H'' y=>?_⟩
          obtain⟨upy,ry,rhy⟩:=yl x H'' y;have finy:=Fin.up upy fin';dsimp only at finy;rw[bind_assoc] at finy;intro s0 H0 C0 cl0 fp0;refine⟨fun pins s w I rw'=>?_⟩
          have bk:=lT G s0 H0 scope C0 cl0 fp0;have f1:=Fin.bind (RV:=cT X.K X.mg) finy;have gg:=hg _ bk u x (iw su (own.map (·.2))) h' (L2.wipe σ (own.map (·.2))) H'' m' (by rw[bk.K,bk.mg];exact ry) (by rw[bk.K,bk.mg];exact(rs'.up upy).wipe _) (by rw[bk.w,bk.K,bk.mg];exact rhy) _ (Fin.blk bk.K bk.mg bk.w (by rw[bk.K,bk.mg]) f1 fun _ _ q=>q) pins s w I rw'
          refine thn gg fun _ s' ⟨σ2,H2,I2,off,su2,h2,m2,up2,rs2,rh2,f2⟩=>⟨σ2,H2,I2,?_,?_⟩
          . rw[Off.wipe off hns,qZ]
          . rw[bind_assoc] at f2
            intro s1 H1' C1 cl1 fp1;refine⟨fun pins s I=>?_⟩
            have bk:=lT G s1 H1' scope C1 cl1 fp1;have f3:=Fin.bind (RV:=sV) f2;refine ht _ bk su2 h2 σ2 H2 m2 (by rw[bk.K,bk.mg];exact rs2) (by rw[bk.w,bk.K,bk.mg];exact rh2) _ (Fin.blk bk.K bk.mg bk.w rfl f3 fun k H3 ⟨k',h3,m3,up3,r3,rh3,f4⟩=>?_) pins s I
            cases r3
            have upA:=(upy.trans up2).trans up3;cases k with
            | false=>
              rw[if_neg Bool.false_ne_true] at f4 ⊢;exact⟨h3,m3,Nat.lt_of_lt_of_le hlt upA.le,by rw[upA.eq _ hlt];exact hmD,rj'.up upA,rs'.up upA,rh3,f4⟩
            | true=>
              rw[if_pos rfl] at f4 ⊢;rw[bind_assoc] at f4;intro s1 H1' C1 cl1 fp1;refine⟨fun pins s h0 I=>?_⟩
              have bk:=lT G s1 H1' scope C1 cl1 fp1;have f5:=Fin.bind (RV:=cW X) f4;refine he _ bk su2 h3 σ2 H3 m3 (by rw[bk.K,bk.mg];exact rs2.up up3) (by rw[bk.w,bk.K,bk.mg];exact rh3) _ (Fin.blk bk.K bk.mg bk.w (by unfold cW;rw[bk.K,bk.mg]) f5 fun yv H4 ⟨uy,h4,m4,up4,r4,rh4,f6⟩=>?_) pins s h0 I
              have upB:=upA.trans up4;have hltB:=Nat.lt_of_lt_of_le hlt upB.le;have hDB:m4 h1.length=D:=by rw[upB.eq _ hlt];exact hmD
              cases e4:h4[h1.length]? with
              | none=>rw[e4] at f6;exact False.elim f6
              | some ob=>
                cases ob with
                | lst acc=>
                  rw[e4] at f6;dsimp only at f6;split at f6
                  . rename_i hacc
                    obtain⟨xs,hx,rxs⟩:=rh4.at_ _ _ e4;rw[hDB] at hx;have hM:Mut (H4 D):=by rw[hx];trivial
                    have upM:=Up.CI (K:=X.K) (m:=m4) (n:=h4.length) (o:=.lst (xs++[yv])) hM;have hl5:(h4.set h1.length (.lst (acc++[uy]))).length=h4.length:=List.length_set
                    have new:RO X.w X.K X.mg m4 (upd H4 (m4 h1.length) (.lst (xs++[yv]))) h4.length (.lst (acc++[uy])) (m4 h1.length):=⟨xs++[yv],upd_same,by
                      rw[hDB];exact a5.up upM _ _ (a5.append rxs (by simp only[a5];exact⟨_,_,rfl,r4,rfl⟩))⟩
                    have rh5:=rh4.put e4 rfl rfl new;rw[hDB] at rh5;refine⟨xs,hx,by rw[<- rxs.length,sizeLine_eq];exact hacc,h4.set h1.length (.lst (acc++[uy])),m4,by rw[hl5];exact hltB,hDB,by rw[hl5];exact(rj'.up upB).up upM,by rw[hl5];exact(rs'.up upB).up upM,rh5,?_⟩
                    exact Fin.up (h1:=h4.set h1.length (.lst (acc++[uy]))) (by rw[hl5];exact upM) f6
                  . exact False.elim f6
                | _=>rw[e4] at f6;exact False.elim f6
theorem Ce (G:Good X j) (ok:BlkOk X.N X.env.scope scope own) (hi:wV X tg iter fi)
    (hg:∀ Y,sU X scope j Y->SG Y tg g ns) (ht:∀ Y,sU X scope j Y->CH Y ifs t) (he:∀ Y,sU X scope j Y->CO Y elt fe)
    (hns:∀ i∈ns,i∈own.map (·.2):=by decide) (hs:∀ x,foldedSetIterable iter X.env x=pure x:=by intro _;rfl):CO X (.ListComp elt [⟨tg,iter,ifs,0⟩] scope pos) (bj fi g t fe (own.map (·.2))):=by
  intro su h σ H m rs rh Q fin;exact uY (DW G.calm G.nd oC ok (fun _ _ _ _ _=>GV) (fun _ _ _ _ _=>BS) (fun _ _ _ _ _=>IB) hs) (Gm G rs rh hi fin hg ht he hns)
end
section
variable {GG:Prop} {X:Cx} {N:List Str} {sc:Scope} {fl:Str->Bool} {j:Nat} {Φ:ky}
variable {e a b:Expr} {es:List Expr} {fe fa fb:FE} {pos p2:Pos} {x:Str} {i:Nat}
theorem Cg {tg iter elt:Expr} {ifs:List Expr} {scope:Scope} {fi:FI} {g:FG} {t:FT} {ns:List Nat} (I:In X N sc fl j Φ) (own:List (Str × Nat)) (hi:wV X tg iter fi)
    (hY:∀ Y,In Y N (relS scope sc) (fun x=>scope.names.lookup x == some .cell) j Φ->SG Y tg g ns/\CH Y ifs t/\CO Y elt fe) (ok:rA N sc scope own=true:=by decide +kernel)
    (hns:∀ i∈ns,i∈own.map (·.2):=by decide) (hs:∀ x,foldedSetIterable iter X.env x=pure x:=by intro _;rfl):CO X (.ListComp elt [⟨tg,iter,ifs,0⟩] scope pos) (bj fi g t fe (own.map (·.2))):=
  Ce I.g (lU I ok) hi (fun Y B=>(hY Y (I.blk B)).1) (fun Y B=>(hY Y (I.blk B)).2.1) (fun Y B=>(hY Y (I.blk B)).2.2) hns hs
end
section
variable {X:Cx} {e:Expr} {es:List Expr} {fe:FE} {fa fr:FA} {g:GB} {T:String} {x:Str} {p pos:Pos}
abbrev IS (X:Cx) (es:List Expr) (σ:Sg) (H:Hp) (Q:List V->Hp->Prop):Prop:=pB (∀ pos pins s,1<=s.toks->Inv X pins σ H s->wpAny (model X.prog X.w) X.A (spliced (backTo pos (starEach es X.env))) (AP X pins σ Q) X.xe s)
def KA (X:Cx) (es:List Expr) (f:FA):Prop:=∀ su h σ H m,cT X.K X.mg m H h.length su σ->RH X.w X.K X.mg m H h->∀ Q,Fin X σ m H h (gj X) (f su h) Q->IS X es σ H Q
theorem xV (ha:CO X e fe) (hs:starEach [e] X.env=(false,eval e X.env)::starEach [] X.env:=by rfl):KA X [e] (aa fe ai):=by
  intro su h σ H m rs rh Q fin;refine⟨fun pos pins s h0 I=>?_⟩
  refine pat_cons DX pat_nil hs pos pins s σ H Q h0 I (ha su h σ H m rs rh _ ((Fin.bind (RV:=cW X) fin).imp fun v H1 ⟨u,h1,m1,up1,r1,rh1,fin1⟩=>?_))
  exact fin1 [v] m1 H1 .refl (by simp only[gj,a5];exact⟨_,_,rfl,r1,rfl⟩) rh1
theorem oV (hc:SB X (.type T) g) (hg:Gl X x) (hm:X.mg x=none) (hv:bootBuiltins x=some (.type T)) (ha:KA X (e::es) fa) (hn:x≠"__name__" := by decide) (hdb:(x == ("__debug__" : Str))=false:=by decide)
    (he:starEach (e::es) X.env=(false,eval e X.env)::starEach es X.env:=by rfl) (hpl:(backTo pos (starEach es X.env)).any (·.1)=false:=by rfl):CO X (.Call (.Name x p) (e::es) [] pos) (aS g fa):=by
  intro su h σ H m rs rh Q fin;refine⟨fun pins s t0 I=>?_⟩
  refine wpAny_Call_Name_kw (ld_blt I hg hm hv ?_ hn hdb);refine PyProof.Rows.callWith_type1 (thn (ha su h σ H m rs rh _ (Fin.bind (RV:=gj X) fin) pos pins s t0 I) fun us s1 ⟨vs,H1,I1,r1,us',h1,m1,up1,rus,rh1,fin1⟩=>?_) he hpl
  obtain⟨u',h',eq,post⟩:=fin1.some;obtain⟨r,hr,q⟩:=hc m1 H1 h1 us' vs u' h' Q rus rh1 eq post;exact hr pins s1 σ H1 vs us Q I1 r1 q
end
end UL

namespace UL
open PySem PySem.Spec PyProof.Rows L2 CwR
variable [bo]
section
variable {M:Model} {A:Around} {E:Value->Shared->Prop} {s₀ s:Shared} {m cm:Str->Option Value} {env:Env}
theorem Jb {n:Str} {v:Value} {Q:Unit->Shared->Prop} (x:InCallC s₀ env.locals m env.cells cm s) (hk:env.scope.kind=.function) (hl:env.kindOf n=some .local)
    (h:∀ s',s.toks + 1<=s'.toks->InCallC s₀ env.locals (fun y=>if y=n then some v else m y) env.cells cm s'->Q () s'):wpAny M A (storeName env n v) Q E s:=by
  refine wpAny_storeName_local hl x.toInCall.ns (fun h' hn' hs'=>h _ (Nat.le_refl _) ⟨⟨?_,hn',fun b o e=>?_,x.toInCall.fresh⟩,fun k c hc=>?_,x.apart,x.above⟩) (by rw[hk];rfl)
  . obtain⟨h₁,tk,rfl⟩:=x.toInCall.same
    exact⟨h',_,rfl⟩
  . exact hs'.extBut b o (Nat.ne_of_lt (Nat.lt_of_lt_of_le (Heap.lt_size e) x.toInCall.fresh)) (x.toInCall.keep b o e)
  . exact(x.cell k c hc).sameBut hs' (Nat.ne_of_gt (x.above k c (mem_of_lookup hc)))
theorem EO (f:Str × Value->PUnit->Sem (ForInStep PUnit)) (hf:∀ n v u,f (n,v) u=(do storeName env n v;pure (.yield ⟨⟩))) (hk:env.scope.kind=.function) :
    ∀ (binds:List (Str × Value)) (m cm:Str->Option Value) (s:Shared) (Q:PUnit->Shared->Prop),InCallC s₀ env.locals m env.cells cm s ->
      (∀ x∈binds,env.kindOf x.1=some .local\/(env.kindOf x.1=some .cell/\(env.cells.lookup x.1).isSome=true))->(∃ x∈binds,env.kindOf x.1=some .local) ->
      (∀ s',1<=s'.toks->InCallC s₀ env.locals (bindL env.kindOf binds m) env.cells (bindC env.kindOf binds cm) s'->Q ⟨⟩ s')->wpAny M A (forIn binds ⟨⟩ f) Q E s
  | [],m,cm,s,Q,x,_,⟨_,h,_⟩,_=>by cases h
  | (n,v)::r,m,cm,s,Q,x,hkind,hex,h=>by
    rw[List.forIn_cons,hf];have hr:∀ y∈r,env.kindOf y.1=some .local\/(env.kindOf y.1=some .cell/\(env.cells.lookup y.1).isSome=true):=fun y hy=>hkind y (List.mem_cons_of_mem _ hy)
    rcases hkind (n,v) List.mem_cons_self with hl | ⟨hl,hc⟩
    . refine wpAny_bind (wpAny_bind (Jb x hk hl fun s' t' x'=>wpAny_pure (pP (by omega) (wpAny_bindParams f hf hk r _ _ s' (fun _ s''=>InCallC s₀ env.locals (bindL env.kindOf r _) env.cells (bindC env.kindOf r _) s'') x' hr fun s'' x''=>x'') fun _ s'' t'' x''=>h s'' t'' ?_)))
      unfold bindL bindC;rw[if_pos hl,if_pos hl];exact x''
    . have hnl:¬ env.kindOf n=some .local:=by rw[hl];decide
      have hex':∃ x∈r,env.kindOf x.1=some .local:=by
        obtain⟨y,hy,e⟩:=hex;rcases List.mem_cons.mp hy with rfl | hy
        . exact absurd e hnl
        . exact⟨y,hy,e⟩
      obtain⟨c,hc⟩:=Option.isSome_iff_exists.mp hc;refine wpAny_bind (wpAny_bind (stCC x hk hl hc fun s' x'=>wpAny_pure (EO f hf hk r _ _ s' Q x' hr hex' fun s'' t'' x''=>h s'' t'' ?_)))
      unfold bindL bindC;rw[if_neg hnl,if_neg hnl];exact x''
end
section
variable {M:Model} {A:Around} {E:Value->Shared->Prop} {s:Shared}
theorem DF {scope:Scope} {globals:Addr} {binds:List (Str × Value)} {qual:Str} {func:Option Addr} {code:Value} {builtins:Addr} {Q:Env->Shared->Prop}
    (hk:scope.kind=.function)
    (hkind:∀ x∈binds,scope.names.lookup x.1=some .local\/(scope.names.lookup x.1=some .cell/\((cellsFrom (s.heap.objs.size + 1) scope.names []).lookup x.1).isSome=true))
    (hex:∃ x∈binds,scope.names.lookup x.1=some .local)
    (hQ:∀ env,env=newEnv scope s.heap.objs.size globals (cellsFrom (s.heap.objs.size + 1) scope.names []) qual func code none builtins ->
      ∀ s',1<=s'.toks->InCallC s env.locals (bindL env.kindOf binds fun _=>none) env.cells (bindC env.kindOf binds fun _=>none) s'->Q env s') :
    wpAny M A (newFunctionEnv scope globals [] binds qual func code none builtins) Q E s:=by
  simp only[newFunctionEnv,Option.isSome_none,Bool.false_eq_true,if_false];refine wpAny_bind (wpAny_alloc ?_);refine wpAny_bind (wpAny_layCells _ (fun name kind cells=>by cases hkc:kind == NameKind.cell<;>simp[hkc]) _ _ _ _ ?_)
  have ok:=cellsFrom_ok scope.names (s.heap.push { cls:=.type "frame",data:=.dict #[] }) (s.heap.objs.size + 1) [] ⟨fun _ _ hm=>(nomatch hm),List.Pairwise.nil⟩ (by rw[Heap.size_push];exact Nat.le_refl _)
  rw[Heap.size_push] at ok;rw[show({ s with heap:=s.heap.push { cls:=.type "frame",data:=.dict #[] } }:Shared).heap.objs.size=s.heap.objs.size + 1 from Heap.size_push ..]
  refine wpAny_bind (EO (s₀:=s) (env:=newEnv scope s.heap.objs.size globals (cellsFrom (s.heap.objs.size + 1) scope.names []) qual func code none builtins)
    _ (fun _ _ _=>rfl) hk binds (fun _=>none) (fun _=>none) _ _
    ⟨⟨⟨_,_,rfl⟩,(Heap.Ns.new s.heap (.type "frame")).keeps (pushCells_keeps _ _),fun b o e=>pushCells_keeps _ _ b o (Heap.get?_push_of_some _ e),Nat.le_refl _⟩,
      fun n c hc=>(ok.empty n c (mem_of_lookup hc)).1,ok.apart,fun n c hm=>(ok.empty n c hm).2⟩
    hkind hex fun s' t' x=>wpAny_pure (hQ _ rfl s' t' x))
end
theorem Ap {P:Program} {w:World} {K:PySem.W.Frag} {mg:Str->Option Value} {base:Heap} {k:Nat} {f:Addr} {name qual:Str} {params:Arguments} {body:List Stmt} {scope:Scope} {dV kV doc pm cdv ct oc:Value} {an od:Option Addr}
    {osl:Array (Option Value)} {N ps:List Str} {sp:L2.Sp} (lk:K.lookup f=some ⟨oc,od,.func (PySem.W.fnOf name qual params body scope dV kV doc pm an cdv ct),osl⟩) (hcd:PySem.W.codeIn K cdv qual=true) (S:FnScope N ps scope)
    (hloc:∃ x∈ps,scope.names.lookup x=some .local) (len:∀ vs H Q E,sp vs H Q E->vs.length=ps.length)
    (hbody:∀ (A:Around) (outer:List Env) (s:Shared) (H:Hp) (vs:List V) (Q:VK) (E:XK),A.guards=some []->Room k (A.deeper (envOfC qual scope s.heap.objs.size f cdv))->sp vs H Q E ->
      ∃ t,PSsT (cxOf (CX P w) P w K mg base N qual scope f cdv A outer s H E) body t/\t { nx:=fun _ H'=>Q .non H',rt:=Q } (start N vs) H) :
    CM P w K mg base (k + 1) f (PySem.W.fnOf name qual params body scope dV kV doc pm an cdv ct) ps sp:=by
  refine⟨len,fun A outer s H args us vs Q E hgd hr e0 hb r hsp=>?_⟩
  have hl:=len _ _ _ _ hsp;have KX:K.In s.heap:=e0.mod.kin.keeps fun b o e=>(e0.bs b o e).1
  have lim:s.heap.NoLimit:=e0.mod.nolimit.keeps fun b o e=>(e0.bs b o e).1
  have hkind:∀ y∈ps.zip us,scope.names.lookup y.1=some .local\/(scope.names.lookup y.1=some .cell/\((cellsFrom (s.heap.objs.size + 1) scope.names []).lookup y.1).isSome=true):=fun⟨n,v⟩ hy=>by
    rcases S.par n (List.of_mem_zip hy).1 with q | q
    . exact .inl q
    . exact .inr ⟨q,PySem.W.cellsFrom_some _ _ _ (.inl q)⟩
  refine codeAny_call_function hr.depth (KX _ _ lk) rfl S.co S.gen rfl (PySem.W.codeRec_of KX hcd) (hb _ _ _ _ ?_);have hul:us.length=ps.length:=by rw[<- r.length,hl]
  have hex:∃ y∈ps.zip us,scope.names.lookup y.1=some .local:=by
    obtain⟨n,hn,hq⟩:=hloc;obtain⟨i,hi,e⟩:=List.getElem_of_mem hn;refine⟨(ps.zip us)[i]'(by rw[List.length_zip,hul,Nat.min_self];exact hi),List.getElem_mem _,?_⟩
    rw[List.getElem_zip,e];exact hq
  refine DF S.kind hkind hex fun env he s1 hto x=>?_
  subst he;refine⟨lim.keeps x.toInCall.keep,codeAny_func ?_⟩;obtain⟨t,ht,hq⟩:=hbody A outer s H vs Q E hgd (hr.deeper _) hsp;have I:Inv (cxOf (CX P w) P w K mg base N qual scope f cdv A outer s H E) [] (start N vs) H s1:=inv_start S hr.hd e0 hl r x;refine wpAny_mono (ht [] s1 (start N vs) H _ hto I hq) (fun fl s' hs=>?_) fun e s' hs=>hs
  have fin:∀ {σ':Sg} {H':Hp} {v:V} {u:Value},Inv (cxOf (CX P w) P w K mg base N qual scope f cdv A outer s H E) [] σ' H' s'->RelV v u->Q v H'->CE outer P w H s Q u s':=
    fun {σ' H' v u} J rv q=>⟨v,H',J.os,J.bare,J.base,J.hok,rv,q⟩
  cases fl with
  | ret u=>
    obtain⟨v,σ',H',J,rv,q⟩:=hs;exact fin J rv q
  | next=>
    obtain⟨σ',H',J,q⟩:=hs;exact fin (v:=V.non) (u:=Value.none) J rfl q
  | brk=>
    obtain⟨_,_,_,q⟩:=hs;exact False.elim q
  | cont=>
    obtain⟨_,_,_,q⟩:=hs;exact False.elim q
theorem Ae {P:Program} {w:World} {K:PySem.W.Frag} {mg:Str->Option Value} {base:Heap} {x qual:Str} {params:Arguments} {body:List Stmt} {scope:Scope} {dvs:List V} {kws:List (Str × V)} {f:Addr} {fd:FuncData} {N ps:List Str} {k n np:Nat} {fb:FS} (F:FunD K x qual params body scope dvs kws f fd) (S:FnScope N ps scope) (hn:N.length=n) (hp:ps.length=np)
    (hlc:∃ x∈ps,scope.names.lookup x=some .local)
    (hbody:∀ (X:Cx),X.prog=P->X.w=w->X.K=K->X.mg=mg->X.base=base->X.N=N->X.env.scope=scope->(∀ y,X.fn y=true)->Good X k->Top X qual f->pG X body fb):dw P w K mg base (k + 1) f fd ps np (dW n np fb):=by
  refine⟨F.kp,fun us h hne=>by unfold dW;rw[if_neg hne],?_⟩
  obtain⟨oc,od,dV,kV,doc,pm,an,cdv,ct,osl,rfl,lk,hcd,_,_⟩:=F.ex;refine Ap lk hcd S hlc (fun vs H Q E h=>by rw[hp];exact h.1) (fun A outer s H vs Q E hgd hr hsp=>?_)
  obtain⟨hl,us,h,m,rus,rh,fin⟩:=hsp;have tk:=takes_of (X:=cxOf (CX P w) P w K mg base N qual scope f cdv A outer s H E) (E:=E) rfl rfl rfl rfl;have G:Good (cxOf (CX P w) P w K mg base N qual scope f cdv A outer s H E) k:=⟨S.nd,rfl,passes_of rfl,hr,hgd⟩;have ss:=hbody (cxOf (CX P w) P w K mg base N qual scope f cdv A outer s H E) rfl rfl rfl rfl rfl rfl rfl (fun _=>rfl) G ⟨rfl,rfl,rfl,vn lk hcd⟩
  refine⟨_,jK,?_⟩;have hst:L2.start N vs=vs.map some++List.replicate (n - np) none:=by unfold L2.start;rw[hn,hl]
  rw[hst];refine ss (us.map some++List.replicate (n - np) none) h _ H m (mj _ rus) rh _ ?_;unfold dW at fin;rw[if_pos (show us.length=np by rw[rus.length,hl])] at fin
  cases e:fb (us.map some++List.replicate (n - np) none) h with
  | nx su h'=>rw[e] at fin;exact fun σ' m' H' p _ q=>fin .non m' H' p (by simp only[RU]) q
  | rt u h'=>rw[e] at fin;exact fun v m' H' p r q=>fin v m' H' p r q
  | bk su h'=>rw[e] at fin;exact False.elim fin
  | ct su h'=>rw[e] at fin;exact False.elim fin
  | ex c fs su h'=>rw[e] at fin;exact⟨_,tk,fun cls d σ' m' H' p _ x q=>fin cls d m' H' p x q⟩
  | bad=>rw[e] at fin;exact False.elim fin
theorem Ad {P:Program} {w:World} {K:PySem.W.Frag} {mg:Str->Option Value} {base:Heap} {Φ:ky} {x qual:Str} {params:Arguments} {body:List Stmt} {scope:Scope} {dvs:List V} {kws:List (Str × V)} {f:Addr} {N ps:List Str} {k n np:Nat} {fb:FS} (φ:Φ P w K mg base)
    (F:∃ fd,FunD K x qual params body scope dvs kws f fd) (S:FnScope N ps scope) (hn:N.length=n) (hp:ps.length=np)
    (hbody:∀ X:Cx,In X N scope (fun _=>true) k Φ->Top X qual f->pG X body fb) (hlc:∃ x∈ps,scope.names.lookup x=some .local:=by decide +kernel):∃ fd,FunD K x qual params body scope dvs kws f fd/\dw P w K mg base (k + 1) f fd ps np (dW n np fb):=by
  obtain⟨fd,F⟩:=F;exact⟨fd,F,Ae F S hn hp hlc fun X eP ew eK em eb eN es hfn G T=>hbody X ⟨eN,es,G,by rw[eP,ew,eK,em,eb];exact φ,fun y _=>hfn y⟩ T⟩
end UL

namespace UL
open PySem PySem.Spec PyProof.Rows L2 CwR
variable [bo]
section
variable {X:Cx}
def vh:G2:=fun u w h=>match u,w with
  | .str a,.str b=>some (.bl (!(Builtin.Str.occurrences (S b) (S a) 0 (S b).length 1).isEmpty),h)
  | _,_=>none
theorem ye:SO X (compareOp .In) vh:=by
  intro m H h u w x y u' h' Q r1 r2 rh e post;unfold vh at e;split at e
  . cases e
    simp only[RU] at r1 r2;subst r1 r2;exact⟨_,op_in_str,_,_,rfl,rfl,cj rh post⟩
  . cases e
end
end UL

namespace UL
open PySem PySem.Spec PyProof.Rows L2
def oR {α:Type} (r:Rs α) (P:α->Hm->Prop):Prop:=match r with
  | .ok a h=>P a h
  | _=>False
structure cN {α:Type} (r:Rs α) (P:α->Hm->Prop):Prop where
  out:oR r P
theorem cg {α:Type} {r:Rs α} {P:α->Hm->Prop}:cN r P=oR r P:=propext ⟨fun h=>h.out,fun h=>⟨h⟩⟩
structure Es where
  nx:En->Hm->Prop
  rt:U->Hm->Prop:=fun _ _=>False
  bk:En->Hm->Prop:=fun _ _=>False
  ct:En->Hm->Prop:=fun _ _=>False
def oF (r:Fl) (D:Es):Prop:=match r with
  | .nx su h=>D.nx su h
  | .rt u h=>D.rt u h
  | .bk su h=>D.bk su h
  | .ct su h=>D.ct su h
  | _=>False
structure l4 (r:Fl) (D:Es):Prop where
  out:oF r D
theorem b7 {r:Fl} {D:Es}:l4 r D=oF r D:=propext ⟨fun h=>h.out,fun h=>⟨h⟩⟩
@[simp] theorem wo {su:En} {h:Hm} {D:Es}:l4 (.nx su h) D=D.nx su h:=b7
@[simp] theorem Bs {u:U} {h:Hm} {D:Es}:l4 (.rt u h) D=D.rt u h:=b7
@[simp] theorem GJ {su:En} {h:Hm} {D:Es}:l4 (.bk su h) D=D.bk su h:=b7
@[simp] theorem GK {su:En} {h:Hm} {D:Es}:l4 (.ct su h) D=D.ct su h:=b7
@[simp] theorem GL {c:Str} {fs:List (Str × U)} {su:En} {h:Hm} {D:Es}:l4 (.ex c fs su h) D=False:=b7
@[simp] theorem GI {D:Es}:l4 .bad D=False:=b7
section
variable {α β:Type}
@[simp] theorem l8 {a:α} {h:Hm} {P:α->Hm->Prop}:cN (.ok a h) P=P a h:=cg
@[simp] theorem xK {P:α->Hm->Prop}:cN (.bad) P=False:=cg
@[simp] theorem BE {c:Str} {fs:List (Str × U)} {h:Hm} {P:α->Hm->Prop}:cN (.ex c fs h) P=False:=cg
theorem cN.mono {r:Rs α} {P Q:α->Hm->Prop} (h:cN r P) (k:∀ a h,P a h->Q a h):cN r Q:=by
  cases r with
  | ok a h'=>rw[l8] at h ⊢;exact k _ _ h
  | ex=>rw[BE] at h;exact h.elim
  | bad=>rw[xK] at h;exact h.elim
theorem xM {r:Rs α} {P:α->Hm->Prop}:cN r P ↔ ∃ a h,r=.ok a h/\P a h:=by
  cases r with
  | ok a h=>rw[l8];exact⟨fun p=>⟨a,h,rfl,p⟩,fun⟨a',h',e,p⟩=>by cases e;exact p⟩
  | ex=>rw[BE];exact⟨fun p=>p.elim,fun⟨a',h',e,p⟩=>by cases e⟩
  | bad=>rw[xK];exact⟨fun p=>p.elim,fun⟨a',h',e,p⟩=>by cases e⟩
@[simp] theorem b8 {r:Rs α} {k:α->Hm->Rs β} {P:β->Hm->Prop}:cN (r.bind k) P=cN r fun a h=>cN (k a h) P:=by cases r<;>simp[cg,b7,oR,oF,Rs.bind,Rs.st,bx,bZ]
@[simp] theorem l9 {r:Rs α} {P:α->Hm->Prop}:cN (bx r) P=cN r P:=by cases r<;>simp[cg,b7,oR,oF,Rs.bind,Rs.st,bx,bZ]
@[simp] theorem uJ {a:α} {h:Hm} {P:α->Hm->Prop}:cN (bZ (some (a,h))) P=P a h:=cg
theorem sk {r:Rs α} {su:En} {k:α->Hm->Fl} {D:Es}:l4 (r.st su k) D=cN r fun a h=>l4 (k a h) D:=by cases r<;>simp[cg,b7,oR,oF,Rs.bind,Rs.st,bx,bZ]
def gv (o:Option α) (P:α->Prop):Prop:=match o with
  | some a=>P a
  | none=>False
@[simp] theorem aY {a:α} {P:α->Prop}:gv (some a) P=P a:=rfl
@[simp] theorem BM {P:α->Prop}:gv none P=False:=rfl
def mF (u:U) (P:Bool->Prop):Prop:=match u with
  | .bl b=>P b
  | _=>False
@[simp] theorem sv {b:Bool} {P:Bool->Prop}:mF (.bl b) P=P b:=rfl
def mv (u:U) (P:Int->Prop):Prop:=match u with
  | .int b=>P b
  | _=>False
@[simp] theorem sx {b:Int} {P:Int->Prop}:mv (.int b) P=P b:=rfl
def pE (u:U) (P:List Nat->Prop):Prop:=match u with
  | .str b=>P b
  | _=>False
@[simp] theorem xO {b:List Nat} {P:List Nat->Prop}:pE (.str b) P=P b:=rfl
def qv (us:List U) (P:U->Prop):Prop:=match us with
  | [u]=>P u
  | _=>False
@[simp] theorem on1_1 {u:U} {P:U->Prop}:qv [u] P=P u:=rfl
def sS (us:List U) (P:U->U->Prop):Prop:=match us with
  | [u,w]=>P u w
  | _=>False
@[simp] theorem on2_2 {u w:U} {P:U->U->Prop}:sS [u,w] P=P u w:=rfl
def sT (us:List U) (P:U->U->U->Prop):Prop:=match us with
  | [u,w,z]=>P u w z
  | _=>False
@[simp] theorem on3_3 {u w z:U} {P:U->U->U->Prop}:sT [u,w,z] P=P u w z:=rfl
variable {su:En} {h:Hm} {P:U->Hm->Prop} {D:Es} {f g:FS} {fa fb fc fe:FE} {t t':FT} {fr:FA} {i k l:Nat} {u:U}
@[simp] theorem okR_cE:cN (cE u su h) P=P u h:=by simp[cg,b7,oR,oF,gv,mF,mv,pE,qv,sS,sT,Rs.bind,Rs.st,bx,bZ,aH,dJ,jl,cE,ai,jd,aG,cC,b9]
@[simp] theorem okR_varE:cN (ah i su h) P=gv su[i]? fun o=>gv o fun u=>P u h:=by
  unfold ah;cases su[i]? with
  | none=>simp[cg,b7,oR,oF,gv,mF,mv,pE,qv,sS,sT,Rs.bind,Rs.st,bx,bZ,aH,dJ,jl,cE,ai,jd,aG,cC,b9]
  | some o=>cases o<;>simp[cg,b7,oR,oF,gv,mF,mv,pE,qv,sS,sT,Rs.bind,Rs.st,bx,bZ,aH,dJ,jl,cE,ai,jd,aG,cC,b9]
@[simp] theorem okR_opE {o:G2}:cN (aM o fa fb su h) P=cN (fa su h) fun u h1=>cN (fb su h1) fun w h2=>cN (bZ (o u w h2)) P:=by
  unfold aM;simp only[b8]
@[simp] theorem okR_asB {P:Bool->Hm->Prop}:cN (cb fa su h) P=cN (fa su h) fun u h1=>mF u fun b=>P b h1:=by
  unfold cb;rw[b8]
  congr 1
  funext u h1
  cases u<;>simp[cg,b7,oR,oF,gv,mF,mv,pE,qv,sS,sT,Rs.bind,Rs.st,bx,bZ,aH,dJ,jl,cE,ai,jd,aG,cC,b9]
@[simp] theorem okR_orT {P:Bool->Hm->Prop}:cN (uK t t' su h) P=cN (t su h) fun k h1=>if k=true then P true h1 else cN (t' su h1) P:=by
  unfold uK;rw[b8]
  congr 1
  funext k h1
  cases k<;>simp[cg,b7,oR,oF,gv,mF,mv,pE,qv,sS,sT,Rs.bind,Rs.st,bx,bZ,aH,dJ,jl,cE,ai,jd,aG,cC,b9]
@[simp] theorem okR_ifE:cN (pC t fa fb su h) P=cN (t su h) fun k h1=>if k=true then cN (fa su h1) P else cN (fb su h1) P:=by
  unfold pC;rw[b8]
  congr 1
  funext k h1
  cases k<;>simp[cg,b7,oR,oF,gv,mF,mv,pE,qv,sS,sT,Rs.bind,Rs.st,bx,bZ,aH,dJ,jl,cE,ai,jd,aG,cC,b9]
@[simp] theorem okR_nilA {P:List U->Hm->Prop}:cN (ai su h) P=P [] h:=by simp[cg,b7,oR,oF,gv,mF,mv,pE,qv,sS,sT,Rs.bind,Rs.st,bx,bZ,aH,dJ,jl,cE,ai,jd,aG,cC,b9]
@[simp] theorem okR_consA {P:List U->Hm->Prop}:cN (aa fe fr su h) P=cN (fe su h) fun u h1=>cN (fr su h1) fun us h2=>P (u::us) h2:=by
  unfold aa;simp only[b8,l8]
@[simp] theorem okR_lstE:cN (aP fr su h) P=cN (fr su h) fun us h1=>us.length<=16777216/\P (.ref h1.length) (h1++[.lst us]):=by
  unfold aP pM;rw[b8]
  congr 1
  funext us h1
  split
  . rename_i hl;simp[hl]
  . rename_i hl;simp[hl]
@[simp] theorem okR_callE {F:Fn}:cN (aC F fr su h) P=cN (fr su h) fun us h1=>cN (F us h1) P:=by unfold aC;rw[b8]
@[simp] theorem okR_bltE {b:GB}:cN (aS b fr su h) P=cN (fr su h) fun us h1=>cN (bZ (b us h1)) P:=by unfold aS;simp only[b8]
@[simp] theorem okR_slE {lo hi:En->Hm->Rs (Option Int)}:cN (oW fe lo hi su h) P=cN (fe su h) fun u h1=>cN (lo su h1) fun l h2=>cN (hi su h2) fun k h3=>cN (bZ (Ep u l k h3)) P:=by unfold oW;simp only[b8]
@[simp] theorem okR_noP {P:Option Int->Hm->Prop}:cN (jd su h) P=P none h:=by simp[cg,b7,oR,oF,gv,mF,mv,pE,qv,sS,sT,Rs.bind,Rs.st,bx,bZ,aH,dJ,jl,cE,ai,jd,aG,cC,b9]
@[simp] theorem okR_someP {P:Option Int->Hm->Prop}:cN (dR fe su h) P=cN (fe su h) fun u h1=>mv u fun i=>P (some i) h1:=by
  unfold dR;rw[b8]
  congr 1
  funext u h1
  cases u<;>simp[cg,b7,oR,oF,gv,mF,mv,pE,qv,sS,sT,Rs.bind,Rs.st,bx,bZ,aH,dJ,jl,cE,ai,jd,aG,cC,b9]
@[simp] theorem j0:l4 (aA f g su h) D=l4 (f su h) { D with nx:=fun su h=>l4 (g su h) D }:=by
  unfold aA;cases f su h<;>simp[cg,b7,oR,oF,gv,mF,mv,pE,qv,sS,sT,Rs.bind,Rs.st,bx,bZ,aH,dJ,jl,cE,ai,jd,aG,cC,b9]
@[simp] theorem DN:l4 (bf i fe su h) D=cN (fe su h) fun u h1=>D.nx (su.set i (some u)) h1:=by unfold bf;rw[sk];simp[cg,b7,oR,oF,gv,mF,mv,pE,qv,sS,sT,Rs.bind,Rs.st,bx,bZ,aH,dJ,jl,cE,ai,jd,aG,cC,b9]
@[simp] theorem okF_ret:l4 (retS fe su h) D=cN (fe su h) D.rt:=by unfold retS;rw[sk];simp[cg,b7,oR,oF,gv,mF,mv,pE,qv,sS,sT,Rs.bind,Rs.st,bx,bZ,aH,dJ,jl,cE,ai,jd,aG,cC,b9]
@[simp] theorem okR_nameG {P:En->Hm->Prop}:cN (aG i u su h) P=P (su.set i (some u)) h:=by simp[cg,b7,oR,oF,gv,mF,mv,pE,qv,sS,sT,Rs.bind,Rs.st,bx,bZ,aH,dJ,jl,cE,ai,jd,aG,cC,b9]
theorem DT {n np:Nat} {us:List U} (hl:us.length=np):cN (dW n np f us h) P=l4 (f (us.map some++List.replicate (n - np) none) h) { nx:=fun _ h=>P .non h,rt:=P }:=by
  unfold dW;rw[if_pos hl];cases f (us.map some++List.replicate (n - np) none) h<;>simp[cg,b7,oR,oF,gv,mF,mv,pE,qv,sS,sT,Rs.bind,Rs.st,bx,bZ,aH,dJ,jl,cE,ai,jd,aG,cC,b9]
@[simp] theorem okR_fn {n np:Nat} {us:List U}:cN (dW n np f us h) P=(us.length=np/\l4 (f (us.map some++List.replicate (n - np) none) h) { nx:=fun _ h=>P .non h,rt:=P }):=by
  by_cases hl:us.length=np
  . rw[DT hl];simp[hl]
  . unfold dW;rw[if_neg hl];simp[hl]
theorem l4.mono {r:Fl} {D D':Es} (h:l4 r D) (h1:∀ su h,D.nx su h->D'.nx su h) (h2:∀ u h,D.rt u h->D'.rt u h) (h3:∀ su h,D.bk su h->D'.bk su h) (h4:∀ su h,D.ct su h->D'.ct su h):l4 r D':=by
  have h:=h.out;refine⟨?_⟩;cases r with
  | nx=>exact h1 _ _ h
  | rt=>exact h2 _ _ h
  | bk=>exact h3 _ _ h
  | ct=>exact h4 _ _ h
  | ex=>exact h
  | bad=>exact h
theorem yT {src:Src} {q:FG} {b:FS} {cnt:Nat} (Iv:Nat->En->Hm->Prop) (hstep:∀ i su h,i < cnt->Iv i su h->∃ u,src i h=some (some u)/\cN (q u su h) fun su1 h1=>l4 (b su1 h1) { nx:=Iv (i + 1),rt:=D.rt,bk:=D.nx,ct:=Iv (i + 1) })
    (hend:∀ su h,Iv cnt su h->src cnt h=some none/\D.nx su h):∀ (d n i:Nat) (su:En) (h:Hm),i + d=cnt->d < n->Iv i su h->l4 (cY src q b n i su h) D:=by
  intro d
  induction d with
  | zero=>
    intro n i su h e hn hi;cases n with
    | zero=>exact absurd hn (Nat.not_lt_zero _)
    | succ n=>
      have e:i=cnt:=by omega
      subst e;obtain⟨h1,h2⟩:=hend su h hi;unfold cY;rw[h1];dsimp only;rw[wo];exact h2
  | succ d ih=>
    intro n i su h e hn hi;cases n with
    | zero=>exact absurd hn (Nat.not_lt_zero _)
    | succ n=>
      obtain⟨u,h1,h2⟩:=hstep i su h (by omega) hi
      unfold cY;rw[h1];dsimp only;rw[sk];refine h2.mono fun su1 h3 k=>?_
      cases e2:b su1 h3 with
      | nx su' h'=>rw[e2,wo] at k;exact ih n (i + 1) su' h' (by omega) (by omega) k
      | ct su' h'=>rw[e2,GK] at k;exact ih n (i + 1) su' h' (by omega) (by omega) k
      | bk su' h'=>rw[e2,GJ] at k;dsimp only;rw[wo];exact k
      | rt u h'=>rw[e2,Bs] at k;dsimp only;rw[Bs];exact k
      | ex=>rw[e2,GL] at k;exact k.elim
      | bad=>rw[e2,GI] at k;exact k.elim
theorem DM {fi:FI} {q:FG} {b:FS} (hi:cN (fi su h) fun src h1=>∃ (cnt:Nat) (Iv:Nat->En->Hm->Prop),cnt < gZ/\Iv 0 su h1/\(∀ i su h,i < cnt->Iv i su h->∃ u,src i h=some (some u)/\cN (q u su h) fun su1 h1=>l4 (b su1 h1) { nx:=Iv (i + 1),rt:=D.rt,bk:=D.nx,ct:=Iv (i + 1) }) /\
    ∀ su h,Iv cnt su h->src cnt h=some none/\D.nx su h):l4 (gb fi q b su h) D:=by
  unfold gb;rw[sk];refine hi.mono fun src h1 ⟨cnt,Iv,hc,a,b',c⟩=>?_
  exact yT Iv b' c cnt gZ 0 su h1 (by omega) hc a
theorem y8 {src:Src} {q:FG} {Dn:Nat} {P:Unit->Hm->Prop} {cnt:Nat} (Iv:Nat->List U->Hm->Prop)
    (hstep:∀ i acc h,i < cnt->Iv i acc h->h[Dn]?=some (.lst acc)->∃ u,src i h=some (some u)/\cN (q u su h) fun su1 h2=>cN (t su1 h2) fun k h3=>if k=true then cN (fe su1 h3) fun y h4=>h4[Dn]?=some (.lst acc)/\acc.length < 16777216/\Iv (i + 1) (acc++[y]) (h4.set Dn (.lst (acc++[y]))) else Iv (i + 1) acc h3/\h3[Dn]?=some (.lst acc))
    (hend:∀ acc h,Iv cnt acc h->h[Dn]?=some (.lst acc)->src cnt h=some none/\P () h):∀ (d n i:Nat) (acc:List U) (h:Hm),i + d=cnt->d < n->Iv i acc h->h[Dn]?=some (.lst acc)->cN (bQ src q t fe Dn su n i h) P:=by
  intro d
  induction d with
  | zero=>
    intro n i acc h e hn hi hD;cases n with
    | zero=>exact absurd hn (Nat.not_lt_zero _)
    | succ n=>
      have e:i=cnt:=by omega
      subst e;obtain⟨h1,h2⟩:=hend acc h hi hD;unfold bQ;rw[h1];dsimp only;rw[l8];exact h2
  | succ d ih=>
    intro n i acc h e hn hi hD;cases n with
    | zero=>exact absurd hn (Nat.not_lt_zero _)
    | succ n=>
      obtain⟨u,h1,h2⟩:=hstep i acc h (by omega) hi hD
      unfold bQ;rw[h1];dsimp only;rw[b8,l9];refine h2.mono fun su1 h3 p1=>?_
      rw[b8,l9];refine p1.mono fun k h4 p2=>?_
      cases k with
      | false=>
        rw[if_neg Bool.false_ne_true] at p2 ⊢;exact ih n (i + 1) acc h4 (by omega) (by omega) p2.1 p2.2
      | true=>
        rw[if_pos rfl] at p2 ⊢;rw[b8,l9];refine p2.mono fun y h5 ⟨a,b,c⟩=>?_
        rw[a];dsimp only;rw[if_pos b];have hlt:Dn < h5.length:=(gEsZ.mp a).1;exact ih n (i + 1) _ _ (by omega) (by omega) c (List.getElem?_set_self hlt)
theorem BD {fi:FI} {q:FG} {vs:List Nat} (hi:cN (fi su h) fun src h1=>∃ (cnt:Nat) (Iv:Nat->List U->Hm->Prop),cnt < gZ/\Iv 0 [] (h1++[.lst []]) /\
    (∀ i acc h,i < cnt->Iv i acc h->h[h1.length]?=some (.lst acc)->∃ u,src i h=some (some u)/\cN (q u (iw su vs) h) fun su1 h2=>cN (t su1 h2) fun k h3=>if k=true then cN (fe su1 h3) fun y h4=>h4[h1.length]?=some (.lst acc)/\acc.length < 16777216/\Iv (i + 1) (acc++[y]) (h4.set h1.length (.lst (acc++[y]))) else Iv (i + 1) acc h3/\h3[h1.length]?=some (.lst acc)) /\
    ∀ acc h,Iv cnt acc h->h[h1.length]?=some (.lst acc)->src cnt h=some none/\P (.ref h1.length) h):cN (bj fi q t fe vs su h) P:=by
  unfold bj;rw[b8];refine hi.mono fun src h1 ⟨cnt,Iv,hc,a,b,c⟩=>?_
  rw[b8];simp only[l8];exact y8 (P:=fun _ h'=>P (U.ref h1.length) h') Iv b c cnt gZ 0 [] _ (by omega) hc a (by simp)
@[simp] theorem BG {P:Bool->Hm->Prop}:cN (b9 su h) P=P true h:=by simp[cg,b7,oR,oF,gv,mF,mv,pE,qv,sS,sT,Rs.bind,Rs.st,bx,bZ,aH,dJ,jl,cE,ai,jd,aG,cC,b9]
@[simp] theorem okR_seqI {P:Src->Hm->Prop}:cN (dZ fe su h) P=cN (fe su h) fun u h1=>km u h1=true/\P (srcOf u) h1:=by
  unfold dZ;rw[b8]
  congr 1
  funext u h1
  split
  . rename_i hl;simp[hl]
  . rename_i hl;simp[hl]
theorem yZ {c:Prop} [Decidable c] {r:Rs α} {P:α->Hm->Prop}:cN (if c then r else .bad) P=(c/\cN r P):=by
  split
  . rename_i hl;simp[hl]
  . rename_i hl;simp[hl]
@[simp] theorem okR_rng1 {P:Src->Hm->Prop}:cN (fB fr su h) P=cN (fr su h) fun us h1=>qv us fun u=>mv u fun j=>(-(2 ^ 62)<=j/\j < 2 ^ 62)/\P (eF 0 j.toNat) h1:=by
  unfold fB;rw[b8]
  congr 1
  funext us h1
  unfold qv;split
  . simp only[sx,yZ,l8]
  . rename_i hn
    split
    . rename_i u
      cases u<;>first | (exact absurd rfl (hn _)) | (simp[cg,b7,oR,oF,gv,mF,mv,pE,qv,sS,sT,Rs.bind,Rs.st,bx,bZ];done)
    . first | rfl | simp[cg,b7,oR,oF,gv,mF,mv,pE,qv,sS,sT,Rs.bind,Rs.st,bx,bZ,aH,dJ,jl,cE,ai,jd,aG,cC,b9]
end
end UL

namespace UL
open PySem PySem.Spec PyProof.Rows L2
variable [bo]
theorem w1 {α:Type} {us:List α} {i:Int} (h0:0<=i) (hl:i < us.length):atI us i=us[i.toNat]?:=by
  unfold atI L2.ixN;rw[if_pos h0,if_pos hl];rfl
@[simp] theorem atI_0 {α:Type} {a:α} {l:List α}:atI (a::l) 0=some a:=by
  rw[w1 (by decide) (by simp)];rfl
@[simp] theorem atI_1 {α:Type} {a b:α} {l:List α}:atI (a::b::l) 1=some b:=by
  rw[w1 (by decide) (by simp;omega)];rfl
@[simp] theorem atI_2 {α:Type} {a b c:α} {l:List α}:atI (a::b::c::l) 2=some c:=by
  rw[w1 (by decide) (by simp;omega)];rfl
@[simp] theorem addU_int {i j:Int} {h:Hm}:cP (.int i) (.int j) h=some (.int (i + j),h):=rfl
@[simp] theorem subU_int {i j:Int} {h:Hm}:zH (.int i) (.int j) h=some (.int (i - j),h):=rfl
@[simp] theorem cmpI_int {p:Int->Int->Bool} {i j:Int} {h:Hm}:tE p (.int i) (.int j) h=some (.bl (p i j),h):=rfl
theorem Gz {i j:Int} {h:Hm} (s:small64 j=true):jh (.int i) (.int j) h=some (.int (i * j),h):=by simp[jh,s]
theorem wc {i j:Int} {h:Hm} (s:small64 i=true):jh (.int i) (.int j) h=some (.int (i * j),h):=by simp[jh,s]
theorem A9 {i j:Int} {h:Hm} (s:0 < j):og (.int i) (.int j) h=some (.int (i % j),h):=by simp[og,s]
@[simp] theorem ue {i:Int} {h:Hm}:gG [.int i] h=some (.int i,h):=rfl
@[simp] theorem zW {i:Int} {h:Hm}:yr [.int i] h=some (.int (if i < 0 then -i else i),h):=rfl
def Sp (p:Nat) (h:Hm):Prop:=∃ a b c:Int,h[p]?=some (.lst [.int a,.int b,.int c])/\0<=a/\0<=b/\b < 2147483647/\0<=c
structure Fr (p:Nat) (h h':Hm):Prop where
  le:h.length<=h'.length
  keep:∀ i,i < h.length->i≠p->h'[i]?=h[i]?
  sp:Sp p h'
theorem Fr.trans {p:Nat} {h h' h'':Hm} (a:Fr p h h') (b:Fr p h' h''):Fr p h h'':=
  ⟨Nat.le_trans a.le b.le,fun i hi hp=>(b.keep i (Nat.lt_of_lt_of_le hi a.le) hp).trans (a.keep i hi hp),b.sp⟩
theorem Fr.refl {p:Nat} {h:Hm} (s:Sp p h):Fr p h h:=⟨Nat.le_refl _,fun _ _ _=>rfl,s⟩
theorem Sp.lt {p:Nat} {h:Hm} (s:Sp p h):p < h.length:=by
  obtain⟨a,b,c,e,_⟩:=s;exact(gEsZ.mp e).1
theorem Sp.app {p:Nat} {h:Hm} {g:Hm} (s:Sp p h):Sp p (h++g):=by
  have hl:=s.lt;obtain⟨a,b,c,e,r⟩:=s;exact⟨a,b,c,by rw[List.getElem?_append_left hl];exact e,r⟩
theorem Fr.app {p:Nat} {h h':Hm} (a:Fr p h h') (g:Hm):Fr p h (h'++g):=
  ⟨by rw[List.length_append];have:=a.le;omega,fun i hi hp=>by rw[List.getElem?_append_left (Nat.lt_of_lt_of_le hi a.le)];exact a.keep i hi hp,a.sp.app⟩
end UL
namespace UL
open PySem PySem.Spec PyProof.Rows L2
variable [bo]
theorem Fr.set {p D:Nat} {h h':Hm} {o:O} (a:Fr p h h') (hD:h.length<=D) (hp:D≠p):Fr p h (h'.set D o):=by
  refine⟨by rw[List.length_set];exact a.le,fun i hi hne=>?_,?_⟩
  . rw[List.getElem?_set_ne (by omega)]
    exact a.keep i hi hne
  . obtain⟨x,y,z,e,r⟩:=a.sp
    exact⟨x,y,z,by rw[List.getElem?_set_ne hp];exact e,r⟩
end UL
namespace UL
open PySem PySem.Spec PyProof.Rows L2
variable [bo]
theorem Fr.new {p:Nat} {h:Hm} {o:O} (s:Sp p h):Fr p h (h++[o]):=(Fr.refl s).app _
theorem Fr.at {p m:Nat} {h h':Hm} {o:O} (a:Fr p h h') (e:h[m]?=some o) (hm:m≠p):h'[m]?=some o:=(a.keep m (gEsZ.mp e).1 hm).trans e
end UL
namespace UL
end UL

namespace UL
open PySem PySem.Spec PyProof.Rows L2
variable [bo]
def eU (zs:List (List Nat)):List PyData:=zs.map fun z=>.str (S z)
def sgn (z:List Nat):Bool:=z.all fun c=>decide (c < 1114112)
end UL

namespace UL
open PySem PySem.Spec PyProof.Rows L2
variable [bo]
section
variable {e:Addr} {d:Option (Addr × Nat)} {tc:List (Str × Bool)} {tt:List (String × Bool)}
end
end UL

namespace LW
open PySem PySem.Spec PyProof.Rows L2 UL
noncomputable def bC:Fn:=dW 5 2 (
  aA (dh (aM cP (aM ixN (ah 0) (cE (.int 2))) (cE (.int 1))) (vg (ah 0) (cE (.int 2))))
  (aA (dh (aM og (aS gG (aa (aM cP (aM cP (aM jh (aM ixN (ah 0) (cE (.int 1))) (cE (.int 69621))) (aM jh (cE (.int 40503)) (aM ixN (ah 0) (cE (.int 2))))) (cE (.int 1))) ai)) (cE (.int 2147483647))) (vg (ah 0) (cE (.int 1))))
  (aA (cJ (cb (aM JT (aM ixN (ah 0) (cE (.int 0))) (cE (.int 0))))
  (aA (dh (aS fq (aa (aM ixN (ah 0) (cE (.int 0))) (aa (ah 1) ai))) (eY 2 (a9 (vg (ah 0) (cE (.int 0))) (a9 (aG 4) cC))))
  (retS (ah 4)))
  (aH))
  (aA (bf 2 (aM cP (aM ixN (ah 0) (cE (.int 1))) (cE (.int 12345))))
  (aA (bf 3 (aM og (aS gG (aa (aM cP (aM jh (ah 2) (aM ixN (ah 0) (cE (.int 1)))) (aM ixN (ah 0) (cE (.int 2)))) ai)) (cE (.int 2147483629))))
  (retS (aM og (aS gG (aa (aM tR (ah 3) (cE (.int 256))) ai)) (ah 1))))))))
noncomputable def bN:Fn:=dW 2 2 (
  retS (aM ixN (ah 1) (aC bC (aa (ah 0) (aa (aS hB (aa (ah 1) ai)) ai)))))
noncomputable def e7:Fn:=dW 4 2 (
  aA (bf 2 (aC bN (aa (ah 0) (aa (aP (aa (cE (.str [97,98,59,44])) (aa (cE (.str [97,98,99,100,101,102,103,104,105,106,107,108,109,110,111,112,113,114,115,116,117,118,119,120,121,122,59,59,59,44,44,44])) (aa (cE (.str [97,59])) (aa (cE (.str [120,44,59])) (aa (cE (.str [44])) (aa (cE (.str [122])) ai))))))) ai))))
  (retS (dy .str joinM (cE (.str [])) (aa (bj (fB (aa (aC bC (aa (ah 0) (aa (aM cP (ah 1) (cE (.int 1))) ai))) ai)) (aG 3) (b9) (aC bN (aa (ah 0) (aa (ah 2) ai))) [3]) ai))))
noncomputable def d8:Fn:=dW 2 1 (
  retS (aS bH (aa (bj (fB (aa (aC bC (aa (ah 0) (aa (cE (.int 6)) ai))) ai)) (aG 1) (b9) (aC e7 (aa (ah 0) (aa (aC bN (aa (ah 0) (aa (aP (aa (cE (.int 1)) (aa (cE (.int 3)) (aa (cE (.int 9)) ai)))) ai))) ai))) [1]) ai)))
noncomputable def fY:Fn:=dW 3 3 (
  retS (aS lN (aa (aM cP (aM cP (ah 1) (cE (.int 1))) (aC bC (aa (ah 0) (aa (aM zH (ah 2) (ah 1)) ai)))) ai)))
noncomputable def fH:Fn:=dW 6 4 (
  aA (bf 4 (aC bC (aa (ah 0) (aa (cE (.int 9)) ai))))
  (aA (cJ (cb (aM Gu (ah 4) (cE (.int 3))))
  (aA (bf 5 (aC bN (aa (ah 0) (aa (aP (aa (cE (.str [105,102,32,101,109,112,116,121,32,103,111,32])) (aa (cE (.str [105,102,32,111,110,32,103,111,32])) (aa (cE (.str [103,111,32])) ai)))) ai))))
  (aA (cJ (kc (cb (aM eqU (ah 2) (cE (.str [101,97,99,104])))) (cb (aM Gu (ah 4) (cE (.int 2)))))
  (bf 5 (aC bN (aa (ah 0) (aa (aP (aa (cE (.str [105,102,32,101,110,100,32,103,111,32])) (aa (cE (.str [105,102,32,109,97,114,107,32,103,111,32])) ai))) ai))))
  (aH))
  (retS (aM cP (ah 5) (aC fY (aa (ah 0) (aa (ah 1) (aa (ah 3) ai))))))))
  (aH))
  (aA (cJ (cb (aM Gu (ah 4) (cE (.int 6))))
  (retS (aC bN (aa (ah 0) (aa (aP (aa (cE (.str [116,101,108,108])) (aa (cE (.str [116,101,108,108,32,98,97,114,101])) (aa (cE (.str [99,108,101,97,114])) (aa (cE (.str [116,101,108,108])) ai))))) ai))))
  (aH))
  (aA (cJ (cb (aM eqU (ah 4) (cE (.int 6))))
  (retS (aC bN (aa (ah 0) (aa (aP (aa (cE (.str [111,110])) (aa (cE (.str [111,102,102])) ai))) ai))))
  (aH))
  (retS (pC (cb (aM eqU (ah 2) (cE (.str [101,97,99,104])))) (cE (.str [97,100,100])) (aC bN (aa (ah 0) (aa (aP (aa (cE (.str [116,101,108,108])) (aa (cE (.str [116,101,108,108,32,98,97,114,101])) (aa (cE (.str [99,108,101,97,114])) (aa (cE (.str [111,110])) (aa (cE (.str [111,102,102])) ai)))))) ai)))))))))
noncomputable def bS:Fn:=dW 6 4 (
  aA (bf 4 (aM cP (ah 2) (aC bC (aa (ah 0) (aa (aM zH (aM cP (ah 3) (cE (.int 1))) (ah 2)) ai)))))
  (retS (bj (fB (aa (ah 4) ai)) (aG 5) (b9) (aC fH (aa (ah 0) (aa (ah 5) (aa (ah 1) (aa (ah 4) ai))))) [5])))
noncomputable def fX:Fn:=dW 5 1 (
  aA (lF 1 2 (aa (aC bC (aa (ah 0) (aa (cE (.int 9)) ai))) (aa (aC bN (aa (ah 0) (aa (aP (aa (cE (.str [116,101,108,108])) (aa (cE (.str [116,101,108,108])) (aa (cE (.str [116,101,108,108,32,98,97,114,101])) ai)))) ai))) ai)))
  (aA (lF 3 4 (aa (aP (aa (cE (.str [105,102,32,101,110,100,32,103,111,32,51])) (aa (cE (.str [97,100,100])) (aa (cE (.str [103,111,32,52])) (aa (ah 2) ai))))) (aa (aP (aa (cE (.str [105,102,32,101,109,112,116,121,32,103,111,32,50])) (aa (ah 2) ai))) ai)))
  (aA (cJ (cb (aM eqU (ah 1) (cE (.int 0))))
  (retS (aP (aa (ah 3) (aa (aP ai) (aa (ah 4) ai)))))
  (aH))
  (aA (cJ (cb (aM eqU (ah 1) (cE (.int 1))))
  (retS (aP (aa (ah 3) (aa (ah 4) (aa (aP ai) ai)))))
  (aH))
  (aA (cJ (cb (aM eqU (ah 1) (cE (.int 2))))
  (retS (aP (aa (ah 3) (aa (aP ai) (aa (aP (aa (ah 2) ai)) ai)))))
  (aH))
  (aA (cJ (cb (aM eqU (ah 1) (cE (.int 3))))
  (retS (aP (aa (ah 3) (aa (aP (aa (cE (.str [111,102,102])) ai)) (aa (aP ai) ai)))))
  (aH))
  (aA (cJ (cb (aM eqU (ah 1) (cE (.int 4))))
  (retS (aP (aa (aP (aa (cE (.str [105,102,32,101,110,100,32,103,111,32,52])) (aa (cE (.str [105,102,32,109,97,114,107,32,103,111,32,53])) (aa (cE (.str [97,100,100])) (aa (cE (.str [103,111,32,53])) (aa (ah 2) ai)))))) (aa (aP ai) (aa (ah 4) ai)))))
  (aH))
  (aA (cJ (cb (aM eqU (ah 1) (cE (.int 5))))
  (retS (aP (aa (aP (aa (cE (.str [105,102,32,101,110,100,32,103,111,32,53])) (aa (cE (.str [97,100,100])) (aa (cE (.str [105,102,32,109,97,114,107,32,103,111,32,52])) (aa (cE (.str [111,102,102])) (aa (cE (.str [103,111,32,55])) (aa (cE (.str [105,102,32,101,109,112,116,121,32,103,111,32,55])) (aa (ah 2) ai)))))))) (aa (aP ai) (aa (ah 4) ai)))))
  (aH))
  (aA (cJ (cb (aM eqU (ah 1) (cE (.int 6))))
  (retS (aP (aa (aP (aa (cE (.str [105,102,32,101,110,100,32,103,111,32,52])) (aa (cE (.str [111,110])) (aa (cE (.str [97,100,100])) (aa (cE (.str [103,111,32,54])) (aa (ah 2) (aa (cE (.str [111,102,102])) ai))))))) (aa (aP ai) (aa (aP (aa (cE (.str [105,102,32,111,110,32,103,111,32,50])) (aa (cE (.str [103,111,32,51])) (aa (ah 2) ai)))) ai)))))
  (aH))
  (aA (cJ (cb (aM eqU (ah 1) (cE (.int 7))))
  (retS (aP (aa (aP (aa (cE (.str [105,102,32,101,110,100,32,103,111,32,51])) (aa (cE (.str [97,100,100])) (aa (cE (.str [103,111,32,53])) (aa (ah 2) (aa (cE (.str [111,110])) ai)))))) (aa (aP (aa (cE (.str [105,102,32,111,110,32,103,111,32,50])) (aa (cE (.str [103,111,32,51])) (aa (cE (.str [111,102,102])) ai)))) (aa (ah 4) ai)))))
  (aH))
  (retS (aP (aa (aP (aa (cE (.str [105,102,32,101,110,100,32,103,111,32,50])) (aa (cE (.str [97,100,100])) ai))) (aa (aP (aa (cE (.str [105,102,32,101,109,112,116,121,32,103,111,32,50])) (aa (ah 2) (aa (cE (.str [99,108,101,97,114])) ai)))) (aa (aP (aa (aC bN (aa (ah 0) (aa (aP (aa (cE (.str [99,108,101,97,114])) (aa (ah 2) ai))) ai))) ai)) ai)))))))))))))))
noncomputable def eZ:Fn:=dW 7 1 (
  aA (cJ (cb (aM eqU (aC bC (aa (ah 0) (aa (cE (.int 6)) ai))) (cE (.int 0))))
  (aA (bf 1 (aP (aa (aC bS (aa (ah 0) (aa (cE (.str [101,97,99,104])) (aa (cE (.int 1)) (aa (cE (.int 7)) ai))))) (aa (aC bS (aa (ah 0) (aa (cE (.str [112,105,101,99,101])) (aa (cE (.int 0)) (aa (cE (.int 3)) ai))))) ai))))
  (retS (aM cP (ah 1) (aP (aa (aC bS (aa (ah 0) (aa (cE (.str [108,97,115,116])) (aa (cE (.int 0)) (aa (cE (.int 4)) ai))))) ai)))))
  (aH))
  (aA (bf 1 (aC fX (aa (ah 0) ai)))
  (aA (gb (fB (aa (aC bN (aa (ah 0) (aa (aP (aa (cE (.int 0)) (aa (cE (.int 1)) (aa (cE (.int 1)) (aa (cE (.int 2)) ai))))) ai))) ai)) (aG 2)
  (aA (bf 3 (aC bN (aa (ah 0) (aa (aP (aa (cE (.int 0)) (aa (cE (.int 0)) (aa (cE (.int 1)) (aa (cE (.int 2)) ai))))) ai))))
  (aA (bf 4 (aM ixN (ah 1) (ah 3)))
  (cJ (cb (aM Be (ah 4) (aP ai)))
  (aA (bf 5 (aC bC (aa (ah 0) (aa (aS hB (aa (ah 4) ai)) ai))))
  (aA (bf 6 (aC fH (aa (ah 0) (aa (ah 5) (aa (aM ixN (aP (aa (cE (.str [101,97,99,104])) (aa (cE (.str [112,105,101,99,101])) (aa (cE (.str [108,97,115,116])) ai)))) (ah 3)) (aa (aS hB (aa (ah 4) ai)) ai))))))
  (aA (bf 4 (aM cP (aM cP (oW (ah 4) (jd) (dR (ah 5))) (aP (aa (ah 6) ai))) (oW (ah 4) (dR (aM cP (ah 5) (cE (.int 1)))) (jd))))
  (bf 1 (aM cP (aM cP (oW (ah 1) (jd) (dR (ah 3))) (aP (aa (ah 4) ai))) (oW (ah 1) (dR (aM cP (ah 3) (cE (.int 1)))) (jd)))))))
  (aH)))))
  (retS (ah 1)))))
noncomputable def gJ:Fn:=dW 10 4 (
  aA (cJ (hW (eV (aS (ei ["Reader"]) (aa (ah 0) (aa (cE (.ty "str")) ai)))))
  (retS (cE .non))
  (aH))
  (aA (bf 4 (cU (aa (cE (.str [116,101,108,108])) (aa (cE (.str [116,101,108,108,32,98,97,114,101])) (aa (cE (.str [99,108,101,97,114])) (aa (cE (.str [111,110])) (aa (cE (.str [111,102,102])) (aa (cE (.str [97,100,100])) ai))))))))
  (aA (cJ (cb (aM (inD false) (ah 0) (ah 4)))
  (retS (pC (uK (cb (aM Be (ah 0) (cE (.str [97,100,100])))) (cb (aM eqU (ah 2) (cE (.str [101,97,99,104]))))) (cU (aa (ah 0) ai)) (cE .non)))
  (aH))
  (aA (bf 5 (dy .str splitM (ah 0) (aa (cE (.str [32])) ai)))
  (aA (bf 6 (bj (lH (aa (aM cP (ah 1) (cE (.int 1))) (aa (aM cP (ah 3) (cE (.int 1))) ai))) (aG 9) (b9) (aS lN (aa (ah 9) ai)) [9]))
  (aA (cJ (cb (aM (inD true) (aM ixN (ah 5) (kd (cE (.int 1)))) (ah 6)))
  (retS (cE .non))
  (aH))
  (aA (lF 7 8 (aa (aS gG (aa (aM ixN (ah 5) (kd (cE (.int 1)))) ai)) (aa (dy .str joinM (cE (.str [32])) (aa (oW (ah 5) (jd) (dR (kd (cE (.int 1))))) ai)) ai)))
  (aA (cJ (cb (aM eqU (ah 8) (cE (.str [103,111]))))
  (retS (cU (aa (cE (.str [103,111])) (aa (ah 7) ai))))
  (aH))
  (aA (cJ (uK (cb (aM (inD false) (ah 8) (cU (aa (cE (.str [105,102,32,101,109,112,116,121,32,103,111])) (aa (cE (.str [105,102,32,111,110,32,103,111])) ai))))) (kc (cb (aM eqU (ah 2) (cE (.str [101,97,99,104])))) (cb (aM (inD false) (ah 8) (cU (aa (cE (.str [105,102,32,101,110,100,32,103,111])) (aa (cE (.str [105,102,32,109,97,114,107,32,103,111])) ai)))))))
  (retS (cU (aa (aM ixN (ah 5) (cE (.int 1))) (aa (ah 7) ai))))
  (aH))
  (retS (cE .non)))))))))))
noncomputable def dD:Fn:=dW 4 2 (
  aA (cJ (uK (hW (eV (aS (ei ["Reader"]) (aa (ah 0) (aa (cE (.ty "tuple")) ai))))) (hW (cb (jn JW JW (o7 [([101,97,99,104],1),([112,105,101,99,101],0),([108,97,115,116],0)] (ah 1)) (aS hB (aa (ah 0) ai)) (o7 [([101,97,99,104],10),([112,105,101,99,101],5),([108,97,115,116],5)] (ah 1))))))
  (retS (cU (aa (cE .non) ai)))
  (aH))
  (aA (gb (jc (aa (ah 0) ai)) (eY 2 (a9 (aG 2) (a9 (aG 3) cC)))
  (cJ (cb (aM (Az false) (aC gJ (aa (ah 3) (aa (ah 2) (aa (ah 1) (aa (aS hB (aa (ah 0) ai)) ai))))) (cE .non)))
  (retS (cU (aa (ah 2) ai)))
  (aH)))
  (retS (cU ai))))
noncomputable def eO:Fn:=dW 4 2 (
  retS (aS bH (aa (bj (jc (aa (ah 0) ai)) (eY 2 (a9 (aG 2) (a9 (aG 3) cC))) (b9) (aC gJ (aa (ah 3) (aa (ah 2) (aa (ah 1) (aa (aS hB (aa (ah 0) ai)) ai))))) [2,3]) ai)))
noncomputable def d7:Fn:=dW 5 4 (
  aA (bf 4 (aC dD (aa (ah 1) (aa (cE (.str [101,97,99,104])) ai))))
  (aA (cJ (eV (ah 4))
  (cO "InvalidEach" "index" (aa (aM ixN (ah 4) (cE (.int 0))) ai))
  (aH))
  (aA (bf 4 (aC dD (aa (ah 2) (aa (cE (.str [112,105,101,99,101])) ai))))
  (aA (cJ (eV (ah 4))
  (cO "InvalidPiece" "index" (aa (aM ixN (ah 4) (cE (.int 0))) ai))
  (aH))
  (aA (bf 4 (aC dD (aa (ah 3) (aa (cE (.str [108,97,115,116])) ai))))
  (aA (cJ (eV (ah 4))
  (cO "InvalidLast" "index" (aa (aM ixN (ah 4) (cE (.int 0))) ai))
  (aH))
  (aA (dh (jb [(cE (.str [101,97,99,104]),ah 1),(cE (.str [112,105,101,99,101]),ah 2),(cE (.str [108,97,115,116]),ah 3)]) (hX ["Reader"] "parts" (ah 0)))
  (aA (dh (jb [(cE (.str [101,97,99,104]),aC eO (aa (ah 1) (aa (cE (.str [101,97,99,104])) ai))),(cE (.str [112,105,101,99,101]),aC eO (aa (ah 2) (aa (cE (.str [112,105,101,99,101])) ai))),(cE (.str [108,97,115,116]),aC eO (aa (ah 3) (aa (cE (.str [108,97,115,116])) ai)))]) (hX ["Reader"] "steps" (ah 0)))
  (aA (dh (cU (fG (ah 1) (fG (ah 2) (fG (ah 3) ai)))) (hX ["Reader"] "whole" (ah 0)))
  (dh (dy .str joinM (cE (.str [10])) (aa (aP (aa (cE (.str [101,97,99,104])) (fG (ah 1) (aa (cE (.str [112,105,101,99,101])) (fG (ah 2) (aa (cE (.str [108,97,115,116])) (fG (ah 3) ai))))))) ai)) (hX ["Reader"] "shown" (ah 0))))))))))))
noncomputable def fZ:Fn:=dW 1 1 (
  retS (A6 "Reader" d7 (aa (aS bH (aa (aM ixN (ah 0) (cE (.int 0))) ai)) (aa (aS bH (aa (aM ixN (ah 0) (cE (.int 1))) ai)) (aa (aS bH (aa (aM ixN (ah 0) (cE (.int 2))) ai)) ai)))))
noncomputable def dC:Fn:=dW 1 1 (
  cJ (hW (eV (aS (ei ["Reader"]) (aa (ah 0) (aa (cE (.glo "Reader")) ai)))))
  (cO "NotAReader" "given" (aa (ah 0) ai))
  (aH))
noncomputable def gR:Fn:=dW 2 1 (
  retS (tq (aS (ei ["Reader"]) (aa (ah 0) (aa (cE (.ty "str")) ai))) (aS allB (aa (bj (dZ (ah 0)) (aG 1) (b9) (CJ (aM (inD false) (ah 1) (cE (.str [97,98,99,100,101,102,103,104,105,106,107,108,109,110,111,112,113,114,115,116,117,118,119,120,121,122]))) (aM (inD false) (ah 1) (cU (aa (cE (.str [59])) (aa (cE (.str [44])) ai))))) [1]) ai))))
noncomputable def dB:Fn:=dW 3 1 (
  aA (cJ (hW (eV (aS (ei ["Reader"]) (aa (ah 0) (aa (cE (.ty "tuple")) ai)))))
  (cO "InvalidPieces" "index" (aa (cE .non) ai))
  (aH))
  (gb (jc (aa (ah 0) ai)) (eY 2 (a9 (aG 1) (a9 (aG 2) cC)))
  (cJ (hW (eV (aC gR (aa (ah 2) ai))))
  (cO "InvalidPieces" "index" (aa (ah 1) ai))
  (aH))))
noncomputable def kZ:Fn:=dW 4 4 (
  aA (cJ (cb (aM eqU (ah 0) (cE (.str [101,110,100]))))
  (retS (aM eqU (ah 1) (cE (.str [59]))))
  (aH))
  (aA (cJ (cb (aM eqU (ah 0) (cE (.str [109,97,114,107]))))
  (retS (aM eqU (ah 1) (cE (.str [44]))))
  (aH))
  (retS (pC (cb (aM eqU (ah 0) (cE (.str [101,109,112,116,121])))) (aM eqU (ah 2) (cE (.str []))) (ah 3)))))
noncomputable def m5:Fn:=dW 1 1 (
  retS (pC (cb (aM eqU (oW (ah 0) (dR (kd (cE (.int 1)))) (jd)) (cE (.str [44])))) (oW (ah 0) (jd) (dR (kd (cE (.int 1))))) (ah 0)))
noncomputable def kq:Fn:=dW 9 4 (
  aA (qw 4 5 6 (aa (cE (.int 0)) (aa (aP ai) (aa (cE (.bl false)) ai))))
  (aA (kY (cb (aM Gu (ah 4) (aS hB (aa (ah 0) ai))))
  (aA (bf 7 (aM ixN (ah 0) (ah 4)))
  (aA (bf 8 (aM ixN (ah 7) (cE (.int 0))))
  (aA (mD 4 qf (cE (.int 1)))
  (cJ (uK (cb (aM eqU (ah 8) (cE (.str [103,111])))) (kc (cb (aM eqU (aS hB (aa (ah 7) ai)) (cE (.int 2)))) (eV (aC kZ (aa (ah 8) (aa (ah 1) (aa (ah 2) (aa (ah 3) ai))))))))
  (bf 4 (aM ixN (ah 7) (cE (.int 1))))
  (cJ (cb (aM eqU (aS hB (aa (ah 7) ai)) (cE (.int 1))))
  (aA (cJ (kc (cb (aM eqU (ah 8) (cE (.str [97,100,100])))) (kc (cb (aM Be (ah 1) (cE (.str [59])))) (hW (eV (ah 6)))))
  (lF 2 6 (aa (aM cP (ah 2) (ah 1)) (aa (cE (.bl true)) ai)))
  (aH))
  (aA (cJ (cb (aM (inD false) (ah 8) (cU (aa (cE (.str [116,101,108,108])) (aa (cE (.str [116,101,108,108,32,98,97,114,101])) ai)))))
  (fu (dy .list iS (ah 5) (aa (pC (cb (aM eqU (ah 8) (cE (.str [116,101,108,108])))) (ah 2) (aC m5 (aa (ah 2) ai))) ai)))
  (aH))
  (aA (cJ (cb (aM (inD false) (ah 8) (cU (aa (cE (.str [116,101,108,108])) (aa (cE (.str [116,101,108,108,32,98,97,114,101])) (aa (cE (.str [99,108,101,97,114])) ai))))))
  (bf 2 (cE (.str [])))
  (aH))
  (cJ (cb (aM (inD false) (ah 8) (cU (aa (cE (.str [111,110])) (aa (cE (.str [111,102,102])) ai)))))
  (bf 3 (aM eqU (ah 8) (cE (.str [111,110]))))
  (aH)))))
  (aH)))))))
  (retS (cU (aa (ah 2) (aa (ah 3) (aa (ah 5) ai)))))))
noncomputable def gS:Fn:=dW 8 2 (
  aA (qw 3 4 5 (aa (cE (.str [])) (aa (cE (.bl false)) (aa (aP ai) ai))))
  (aA (gb (dZ (ah 1)) (aG 2)
  (aA (gb (dZ (ah 2)) (aG 6)
  (aA (dh (aC kq (aa (aM ixN (gA [("Reader",.fld)] "steps" (ah 0)) (cE (.str [101,97,99,104]))) (aa (ah 6) (aa (ah 3) (aa (ah 4) ai))))) (eY 3 (a9 (aG 3) (a9 (aG 4) (a9 (aG 7) cC)))))
  (fu (dy .list hZ (ah 5) (aa (ah 7) ai)))))
  (aA (dh (aC kq (aa (aM ixN (gA [("Reader",.fld)] "steps" (ah 0)) (cE (.str [112,105,101,99,101]))) (aa (cE (.str [])) (aa (ah 3) (aa (ah 4) ai))))) (eY 3 (a9 (aG 3) (a9 (aG 4) (a9 (aG 7) cC)))))
  (fu (dy .list hZ (ah 5) (aa (ah 7) ai))))))
  (aA (dh (aC kq (aa (aM ixN (gA [("Reader",.fld)] "steps" (ah 0)) (cE (.str [108,97,115,116]))) (aa (cE (.str [])) (aa (ah 3) (aa (ah 4) ai))))) (eY 3 (a9 (aG 3) (a9 (aG 4) (a9 (aG 7) cC)))))
  (retS (aS bH (aa (aM cP (ah 5) (ah 7)) ai))))))
noncomputable def iQ:Fn:=dW 2 2 (
  aA (fu (aC dC (aa (ah 0) ai)))
  (aA (fu (aC dB (aa (ah 1) ai)))
  (retS (aC gS (aa (ah 0) (aa (ah 1) ai))))))
noncomputable def cz:Fn:=dW 6 2 (
  aA (dh (cU (aa (cE (.str [97,98,99,100,101,102,103,104,105,106,107,108,109,110,111,112,113,114,115,116,117,118,119,120,121,122])) (aa (cE (.str [])) ai))) (eY 2 (a9 (aG 3) (a9 (aG 4) cC))))
  (aA (gb (dZ (ah 0)) (aG 2)
  (aA (bf 5 (pC (cb (aM (inD false) (ah 2) (ah 3))) (aM ixN (ah 3) (aM og (aS gG (aa (aM cP (dy .str fD (ah 3) (aa (ah 2) ai)) (ah 1)) ai)) (cE (.int 26)))) (ah 2)))
  (bf 4 (aM cP (ah 4) (ah 5)))))
  (retS (ah 4))))
noncomputable def dU:Fn:=dW 15 1 (
  aA (gb (fB (aa (cE (.int 3)) ai)) (aG 1)
  (aA (lF 4 5 (aa (aC eZ (aa (ah 0) ai)) (aa (aC d8 (aa (ah 0) ai)) ai)))
  (aA (dh (cU (aa (aC fZ (aa (ah 4) ai)) (aa (aM cP (cE (.int 1)) (aC bC (aa (ah 0) (aa (cE (.int 25)) ai)))) ai))) (eY 2 (a9 (aG 6) (a9 (aG 7) cC))))
  (aA (dh (cU (aa (aC iQ (aa (ah 6) (aa (ah 5) ai))) (aa (dy .str joinM (cE (.str [])) (aa (ah 5) ai)) ai))) (eY 2 (a9 (aG 8) (a9 (aG 9) cC))))
  (aA (bf 2 (aC iQ (aa (ah 6) (aa (aS bH (aa (bj (dZ (ah 5)) (aG 14) (b9) (aC cz (aa (ah 14) (aa (ah 7) ai))) [14]) ai)) ai))))
  (aA (cJ (cb (aM Be (aS dQ (aa (ah 2) ai)) (aS dQ (aa (aS bH (aa (bj (dZ (ah 8)) (aG 13) (b9) (aC cz (aa (ah 13) (aa (ah 7) ai))) [13]) ai)) ai))))
  (retS (cE (.bl false)))
  (aH))
  (aA (cJ (eV (aS anyB (aa (bj (dZ (dy .str joinM (cE (.str [])) (aa (ah 8) ai))) (aG 12) (b9) (aM JT (dy .str eJ (dy .str joinM (cE (.str [])) (aa (ah 8) ai)) (aa (ah 12) ai)) (dy .str eJ (ah 9) (aa (ah 12) ai))) [12]) ai)))
  (retS (cE (.bl false)))
  (aH))
  (aA (cJ (cb (aM Be (bj (dZ (ah 8)) (aG 13) (cb (aM (inD false) (cE (.str [59])) (ah 13))) (ah 13) [13]) (aP ai)))
  (retS (cE (.bl false)))
  (aH))
  (aA (bf 3 (aM cP (aM cP (aM ixN (ah 4) (cE (.int 0))) (aM ixN (ah 4) (cE (.int 1)))) (aM ixN (ah 4) (cE (.int 2)))))
  (cJ (hW (eV (aS anyB (aa (bj (dZ (ah 3)) (aG 13) (b9) (CJ (aM vh (cE (.str [109,97,114,107])) (ah 13)) (aM vh (cE (.str [98,97,114,101])) (ah 13))) [13]) ai))))
  (aA (bf 10 (aS bH (aa (bj (dZ (ah 5)) (aG 14) (b9) (jM (ah 14) [44] [113]) [14]) ai)))
  (aA (bf 11 (aS bH (aa (bj (dZ (ah 8)) (aG 13) (b9) (jM (ah 13) [44] [113]) [13]) ai)))
  (cJ (cb (aM Be (aS dQ (aa (aC iQ (aa (ah 6) (aa (ah 10) ai))) ai)) (aS dQ (aa (ah 11) ai))))
  (retS (cE (.bl false)))
  (aH))))
  (aH)))))))))))
  (retS (cE (.bl true))))
noncomputable def d9:Fn:=dW 5 2 (
  aA (bf 2 (pC (cb (aM Gu (ah 1) (aS hB (aa (ah 0) ai)))) (aM ixN (ah 0) (ah 1)) (aM cP (aM jh (cE (.int 7)) (ah 1)) (cE (.int 2)))))
  (aA (bf 3 (aM cP (cE (.int 90001)) (aM jh (cE (.int 7919)) (ah 1))))
  (aA (gb (dZ (aM cP (oW (ah 0) (jd) (dR (cE (.int 8)))) (aP (aa (ah 2) ai)))) (aG 4)
  (bf 3 (aM og (aS gG (aa (aM cP (aM cP (aM jh (ah 3) (cE (.int 48271))) (aS gG (aa (ah 4) ai))) (aM jh (cE (.int 11)) (ah 1))) ai)) (cE (.int 2147483647)))))
  (retS (aP (aa (pC (uK (cb (aM Gu (ah 2) (cE (.int 0)))) (cb (aM KH (ah 2) (aM DZ (cE (.int 10)) (cE (.int 18)))))) (aS yr (aa (ah 2) ai)) (cE (.int 0))) (aa (ah 3) (aa (cE (.int 0)) ai))))))))
noncomputable def pW:Fn:=dW 2 1 (
  retS (aS allB (aa (bj (fB (aa (aS yP (aa (cE (.int 2)) (aa (aS yQ (aa (aS hB (aa (ah 0) ai)) (aa (cE (.int 5)) ai))) ai))) ai)) (aG 1) (b9) (aC dU (aa (aC d9 (aa (ah 0) (aa (ah 1) ai))) ai)) [1]) ai)))

end LW
namespace PQ
open PySem UL
inductive W where
  | non | bl (b:Bool) | int (i:Int) | str (x:List Nat) | ty (n:String) | glo (x:Str) | adr (a:Addr)
  | tup (ws:List W) | lst (ws:List W) | cq (kvs:List (W × W)) | dN (kvs:List (W × W)) | dL (kvs:List (W × W)) | ins (c:Str) (fs:List (Str × W)) | d6 (k:Nat)
inductive Cl where
  | lst (ws:List W) | ins (c:Str) (fs:List (Str × W)) | cq (kvs:List (W × W))
abbrev G:=List Cl
inductive PR (α:Type) where
  | ok (a:α) (g:G)
  | ex (c:Str) (fs:List (Str × W)) (g:G)
  | bad
def PR.bind {α β:Type}:PR α->(α->G->PR β)->PR β
  | .ok a g,f=>f a g
  | .ex c fs g,_=>.ex c fs g
  | .bad,_=>.bad
structure Vw where
  fz:Nat->Option W
  cm:Nat->Option Nat
mutual
inductive Rep (v:Vw):U->W->Prop
  | non:Rep v .non .non
  | bl (b:Bool):Rep v (.bl b) (.bl b)
  | int (i:Int):Rep v (.int i) (.int i)
  | str (x:List Nat):Rep v (.str x) (.str x)
  | ty (n:String):Rep v (.ty n) (.ty n)
  | glo (x:Str):Rep v (.glo x) (.glo x)
  | adr (a:Addr):Rep v (.adr a) (.adr a)
  | tup {us:List U} {ws:List W}:aO v us ws->Rep v (.tup us) (.tup ws)
  | fro {i:Nat} {w:W}:v.fz i=some w->Rep v (.ref i) w
  | d6 {i k:Nat}:v.cm k=some i->Rep v (.ref i) (.d6 k)
inductive aO (v:Vw):List U->List W->Prop
  | nil:aO v [] []
  | cons {u:U} {w:W} {us:List U} {ws:List W}:Rep v u w->aO v us ws->aO v (u::us) (w::ws)
end
structure ff (v:Vw) (us:List (U × U)) (ws:List (W × W)):Prop where
  k:aO v (us.map (·.1)) (ws.map (·.1))
  x:aO v (us.map (·.2)) (ws.map (·.2))
structure jg (v:Vw) (us:List (Str × U)) (ws:List (Str × W)):Prop where
  k:us.map (·.1)=ws.map (·.1)
  x:aO v (us.map (·.2)) (ws.map (·.2))
def dI (v:Vw):O->W->Prop
  | .lst us,.lst ws=>aO v us ws
  | .cq us,.cq ws=>ff v us ws
  | .dN us,.dN ws=>ff v us ws
  | .dL us,.dL ws=>ff v us ws
  | .ins c us,.ins c' ws=>c=c'/\jg v us ws
  | _,_=>False
def Cl.w:Cl->W
  | .lst ws=>.lst ws
  | .ins c fs=>.ins c fs
  | .cq kvs=>.cq kvs
structure Le (v v':Vw):Prop where
  fz:∀ i w,v.fz i=some w->v'.fz i=some w
  cm:∀ k i,v.cm k=some i->v'.cm k=some i
mutual
theorem Rep.mono {v v':Vw} (l:Le v v'):∀ (u:U) (w:W),Rep v u w->Rep v' u w
  | .non,_,h=>by cases h;exact .non
  | .bl _,_,h=>by cases h;exact .bl _
  | .int _,_,h=>by cases h;exact .int _
  | .str _,_,h=>by cases h;exact .str _
  | .ty _,_,h=>by cases h;exact .ty _
  | .glo _,_,h=>by cases h;exact .glo _
  | .adr _,_,h=>by cases h;exact .adr _
  | .ref i,_,h=>by
    cases h with
    | fro e=>exact .fro (l.fz _ _ e)
    | d6 e=>exact .d6 (l.cm _ _ e)
  | .tup us,_,h=>by
    cases h with
    | tup r=>exact .tup (aO.mono l us _ r)
theorem aO.mono {v v':Vw} (l:Le v v'):∀ (us:List U) (ws:List W),aO v us ws->aO v' us ws
  | [],_,h=>by cases h;exact .nil
  | u::us,_,h=>by
    cases h with
    | cons a b=>exact .cons (Rep.mono l u _ a) (aO.mono l us _ b)
end
section
variable {v v' v'':Vw} {u:U} {w:W} {us us':List U} {ws ws':List W}
theorem Rep.up (h:Rep v u w) (l:Le v v'):Rep v' u w:=Rep.mono l _ _ h
theorem aO.up (h:aO v us ws) (l:Le v v'):aO v' us ws:=aO.mono l _ _ h
theorem ff.up {us:List (U × U)} {ws:List (W × W)} (h:ff v us ws) (l:Le v v'):ff v' us ws:=⟨h.k.up l,h.x.up l⟩
theorem jg.up {us:List (Str × U)} {ws:List (Str × W)} (h:jg v us ws) (l:Le v v'):jg v' us ws:=⟨h.k,h.x.up l⟩
theorem dI.up {o:O} (h:dI v o w) (l:Le v v'):dI v' o w:=by
  cases o<;>cases w<;>first
    | exact h.elim
    | exact aO.up h l
    | exact ff.up h l
    | exact⟨h.1,h.2.up l⟩
theorem Le.refl:Le v v:=⟨fun _ _ h=>h,fun _ _ h=>h⟩
theorem Le.trans (a:Le v v') (b:Le v' v''):Le v v'':=⟨fun i w h=>b.fz _ _ (a.fz i w h),fun i w h=>b.cm _ _ (a.cm i w h)⟩
theorem aO.len:∀ {us:List U} {ws:List W},aO v us ws->us.length=ws.length
  | [],_,h=>by cases h;rfl
  | u::us,_,h=>by
    cases h with
    | cons a b=>simp[aO.len b]
theorem aO.get:∀ {us:List U} {ws:List W} {i:Nat} {w:W},aO v us ws->ws[i]?=some w->∃ u,us[i]?=some u/\Rep v u w
  | [],_,i,_,h,e=>by cases h;simp at e
  | u::us,_,i,w,h,e=>by
    cases h with
    | cons a b=>
      cases i with
      | zero=>simp at e;subst e;exact⟨u,by simp,a⟩
      | succ i=>simp at e ⊢;exact aO.get b e
theorem aO.app:∀ {us us':List U} {ws ws':List W},aO v us ws->aO v us' ws'->aO v (us++us') (ws++ws')
  | [],_,_,_,h,h'=>by cases h;exact h'
  | u::us,_,_,_,h,h'=>by
    cases h with
    | cons a b=>exact .cons a (aO.app b h')
theorem aO.set:∀ {us:List U} {ws:List W} {u:U} {w:W} (i:Nat),aO v us ws->Rep v u w->aO v (us.set i u) (ws.set i w)
  | [],_,_,_,_,h,_=>by cases h;exact .nil
  | u::us,_,_,_,0,h,r=>by
    cases h with
    | cons a b=>exact .cons r b
  | u::us,_,_,_,i + 1,h,r=>by
    cases h with
    | cons a b=>exact .cons a (aO.set i b r)
theorem aO.take:∀ {us:List U} {ws:List W} (i:Nat),aO v us ws->aO v (us.take i) (ws.take i)
  | [],_,_,h=>by cases h;simp;exact .nil
  | u::us,_,0,h=>by simp;exact .nil
  | u::us,_,i + 1,h=>by
    cases h with
    | cons a b=>exact .cons a (aO.take i b)
theorem aO.drop:∀ {us:List U} {ws:List W} (i:Nat),aO v us ws->aO v (us.drop i) (ws.drop i)
  | [],_,_,h=>by cases h;simp;exact .nil
  | u::us,_,0,h=>by simpa using h
  | u::us,_,i + 1,h=>by
    cases h with
    | cons a b=>simpa using aO.drop i b
theorem aO.mem:∀ {us:List U} {ws:List W} {u:U},aO v us ws->u∈us->∃ w,w∈ws/\Rep v u w
  | [],_,_,_,e=>by cases e
  | x::us,_,u,h,e=>by
    cases h with
    | cons a b=>
      rcases List.mem_cons.mp e with rfl | e
      . exact⟨_,List.mem_cons_self,a⟩
      . obtain⟨w,hw,r⟩:=aO.mem b e
        exact⟨w,List.mem_cons_of_mem _ hw,r⟩
theorem jg.look {f:Str}:∀ {us:List (Str × U)} {ws:List (Str × W)} {w:W},jg v us ws->ws.lookup f=some w->∃ u,us.lookup f=some u/\Rep v u w
  | [],ws,w,h,e=>by
    cases ws with
    | nil=>cases e
    | cons p ws=>exact absurd h.k (by simp)
  | (f',u)::us,ws,w,h,e=>by
    cases ws with
    | nil=>cases e
    | cons p ws=>
      obtain⟨f2,w2⟩:=p;obtain⟨hk,hx⟩:=h;simp only[List.map_cons,List.cons.injEq] at hk;obtain⟨rfl,hk⟩:=hk;cases hx with
      | cons a b=>
        simp only[List.lookup] at e ⊢;cases hq:f == f' with
        | true=>rw[hq] at e;cases e;exact⟨u,rfl,a⟩
        | false=>rw[hq] at e;exact jg.look ⟨hk,b⟩ e
end
structure Wd (v:Vw) (h:Hm) (g:G):Prop where
  fz:∀ i w,v.fz i=some w->∃ o,h[i]?=some o/\dI v o w
  cm:∀ k c,g[k]?=some c->∃ i o,v.cm k=some i/\v.fz i=none/\h[i]?=some o/\dI v o c.w
  inj:∀ k k' i,v.cm k=some i->v.cm k'=some i->k=k'
  dom:∀ k i,v.cm k=some i->k < g.length
theorem Wd.lt {v:Vw} {h:Hm} {g:G} (d:Wd v h g) {i:Nat} {w:W} (e:v.fz i=some w):i < h.length:=by
  obtain⟨o,q,_⟩:=d.fz i w e;exact(gEsZ.mp q).1
theorem Wd.Jt {v:Vw} {h:Hm} {g:G} (d:Wd v h g) {k i:Nat} (e:v.cm k=some i):i < h.length:=by
  have hk:=d.dom k i e;obtain⟨i',o,q,_,q2,_⟩:=d.cm k _ (List.getElem?_eq_getElem hk);rw[e] at q;cases q
  exact(gEsZ.mp q2).1
theorem Wd.JR {v:Vw} {h:Hm} {g:G} (d:Wd v h g) {k i:Nat} (e:v.cm k=some i):v.fz i=none:=by
  have hk:=d.dom k i e;obtain⟨i',o,q,q1,q2,_⟩:=d.cm k _ (List.getElem?_eq_getElem hk);rw[e] at q;cases q
  exact q1
structure mq (v:Vw) (r:Nat):Prop where
  fz:v.fz r=none
  cm:∀ k,v.cm k≠some r
structure dz (v:Vw) (h:Hm) (g:G) (v':Vw) (h':Hm) (g':G):Prop where
  wd:Wd v' h' g'
  hl:h.length<=h'.length
  gl:g.length<=g'.length
  fz:∀ i,i < h.length->v'.fz i=v.fz i
  cm:∀ k,k < g.length->v'.cm k=v.cm k
  cn:∀ k i,g.length<=k->v'.cm k=some i->h.length<=i
  fr:∀ i,i < h.length->(∀ k,v.cm k≠some i)->h'[i]?=h[i]?
section
variable {v v' v'':Vw} {h h' h'':Hm} {g g' g'':G}
theorem dz.refl (d:Wd v h g):dz v h g v h g:=⟨d,Nat.le_refl _,Nat.le_refl _,fun _ _=>rfl,fun _ _=>rfl,fun k i hk e=>absurd (d.dom k i e) (by omega),fun _ _ _=>rfl⟩
theorem dz.trans (a:dz v h g v' h' g') (b:dz v' h' g' v'' h'' g''):dz v h g v'' h'' g'':=by
  refine⟨b.wd,Nat.le_trans a.hl b.hl,Nat.le_trans a.gl b.gl,fun i hi=>(b.fz i (Nat.lt_of_lt_of_le hi a.hl)).trans (a.fz i hi),fun k hk=>(b.cm k (Nat.lt_of_lt_of_le hk a.gl)).trans (a.cm k hk),fun k i hk e=>?_,fun i hi hc=>?_⟩
  . by_cases q:k < g'.length
    . rw[b.cm k q] at e;exact a.cn k i hk e
    . exact Nat.le_trans a.hl (b.cn k i (by omega) e)
  . rw[b.fr i (Nat.lt_of_lt_of_le hi a.hl) fun k e=>?_]
    . exact a.fr i hi hc
    . by_cases q:k < g.length
      . rw[a.cm k q] at e;exact hc k e
      . have:=a.cn k i (by omega) e;omega
theorem dz.le (a:dz v h g v' h' g') (d:Wd v h g):Le v v':=⟨fun i w e=>by rw[a.fz i (d.lt e)];exact e,fun k i e=>by rw[a.cm k (d.dom k i e)];exact e⟩
theorem mq.up {r:Nat} (f:mq v r) (a:dz v h g v' h' g') (hr:r < h.length):mq v' r:=⟨by rw[a.fz r hr];exact f.fz,fun k e=>by
  by_cases q:k < g.length
  . rw[a.cm k q] at e;exact f.cm k e
  . have:=a.cn k r (by omega) e;omega⟩
theorem mq.at {r:Nat} (f:mq v r) (a:dz v h g v' h' g') {o:O} (e:h[r]?=some o):h'[r]?=some o:=by
  rw[a.fr r (gEsZ.mp e).1 f.cm];exact e
theorem mq.new (d:Wd v h g):mq v h.length:=⟨by
  cases e:v.fz h.length with
  | none=>rfl
  | some w=>exact absurd (d.lt e) (Nat.lt_irrefl _),fun k e=>absurd (d.Jt e) (Nat.lt_irrefl _)⟩
def Vw.frz (v:Vw) (r:Nat) (w:W):Vw:=⟨fun i=>if i=r then some w else v.fz i,v.cm⟩
theorem Vw.vT {r:Nat} {w:W} (f:v.fz r=none):Le v (v.frz r w):=⟨fun i x e=>by
  show(if i=r then some w else v.fz i)=some x
  rw[if_neg fun z=>by subst z;rw[f] at e;cases e]
  exact e,fun _ _ e=>e⟩
theorem Wd.frz {r:Nat} {w:W} {o:O} (d:Wd v h g) (f:mq v r) (e:h[r]?=some o) (ro:dI v o w):Wd (v.frz r w) h g:=by
  have l:=Vw.vT (w:=w) f.fz;refine⟨fun i x q=>?_,fun k c q=>?_,d.inj,d.dom⟩
  . by_cases z:i=r
    . subst z
      have:some w=some x:=by simpa[Vw.frz] using q
      cases this
      exact⟨o,e,ro.up l⟩
    . have q:v.fz i=some x:=by simpa[Vw.frz,z] using q
      obtain⟨o',a,b⟩:=d.fz i x q;exact⟨o',a,b.up l⟩
  . obtain⟨i,o',a,b,c1,c2⟩:=d.cm k c q
    refine⟨i,o',a,?_,c1,c2.up l⟩;show(if i=r then some w else v.fz i)=none
    rw[if_neg fun z=>f.cm k (by rw[<- z];exact a)]
    exact b
theorem Vw.lj {r:Nat} {w:W}:(v.frz r w).fz r=some w:=by simp[Vw.frz]
theorem Wd.push {o:O} (d:Wd v h g):Wd v (h++[o]) g:=⟨fun i w e=>by
  obtain⟨o',a,b⟩:=d.fz i w e;exact⟨o',by rw[List.getElem?_append_left (gEsZ.mp a).1];exact a,b⟩,fun k c e=>by
  obtain⟨i,o',a,b,c1,c2⟩:=d.cm k c e;exact⟨i,o',a,b,by rw[List.getElem?_append_left (gEsZ.mp c1).1];exact c1,c2⟩,d.inj,d.dom⟩
theorem dz.push {o:O} (d:Wd v h g):dz v h g v (h++[o]) g:=⟨d.push,by simp,Nat.le_refl _,fun _ _=>rfl,fun _ _=>rfl,fun k i hk e=>absurd (d.dom k i e) (by omega),fun i hi _=>List.getElem?_append_left hi⟩
theorem Wd.put {r:Nat} {o:O} (d:Wd v h g) (f:mq v r):Wd v (h.set r o) g:=⟨fun i w e=>by
  obtain⟨o',a,b⟩:=d.fz i w e;exact⟨o',by rw[List.getElem?_set_ne fun z=>by subst z;rw[f.fz] at e;cases e];exact a,b⟩,fun k c e=>by
  obtain⟨i,o',a,b,c1,c2⟩:=d.cm k c e;exact⟨i,o',a,b,by rw[List.getElem?_set_ne fun z=>f.cm k (by rw[z];exact a)];exact c1,c2⟩,d.inj,d.dom⟩
theorem Wd.El {k i:Nat} {c:Cl} {o:O} (d:Wd v h g) (e:v.cm k=some i) (ro:dI v o c.w):Wd v (h.set i o) (g.set k c):=by
  have hi:=d.Jt e;have hk:=d.dom k i e;refine⟨fun j w q=>?_,fun k' c' q=>?_,d.inj,fun k' i' q=>by rw[List.length_set];exact d.dom k' i' q⟩
  . obtain⟨o',a,b⟩:=d.fz j w q
    exact⟨o',by rw[List.getElem?_set_ne fun z=>by subst z;rw[d.JR e] at q;cases q];exact a,b⟩
  . by_cases z:k'=k
    . subst z
      rw[List.getElem?_set_self hk] at q;cases q
      exact⟨i,o,e,d.JR e,List.getElem?_set_self hi,ro⟩
    . rw[List.getElem?_set_ne (Ne.symm z)] at q
      obtain⟨i',o',a,b,c1,c2⟩:=d.cm k' c' q;exact⟨i',o',a,b,by rw[List.getElem?_set_ne fun y=>z (d.inj k' k i' a (by rw[<- y];exact e))];exact c1,c2⟩
theorem dz.El {k i:Nat} {c:Cl} {o:O} (d:Wd v h g) (e:v.cm k=some i) (ro:dI v o c.w):dz v h g v (h.set i o) (g.set k c):=
  ⟨d.El e ro,by simp,by simp,fun _ _=>rfl,fun _ _=>rfl,fun k' i' hk q=>absurd (d.dom k' i' q) (by omega),fun j hj hc=>List.getElem?_set_ne fun z=>hc k (by rw[<- z];exact e)⟩
theorem dz.frz {r:Nat} {w:W} {o:O} (a:dz v h g v' h' g') (hr:h.length<=r) (f:mq v' r) (e:h'[r]?=some o) (ro:dI v' o w):dz v h g (v'.frz r w) h' g':=
  ⟨a.wd.frz f e ro,a.hl,a.gl,fun i hi=>by
    show(if i=r then some w else v'.fz i)=v.fz i
    rw[if_neg (by omega)]
    exact a.fz i hi,a.cm,a.cn,a.fr⟩
theorem dz.put {r:Nat} {o:O} (a:dz v h g v' h' g') (hr:h.length<=r) (f:mq v' r):dz v h g v' (h'.set r o) g':=
  ⟨a.wd.put f,by simp;exact a.hl,a.gl,a.fz,a.cm,a.cn,fun i hi hc=>by rw[List.getElem?_set_ne (by omega)];exact a.fr i hi hc⟩
end
inductive a7 (v:Vw) (h:Hm):U->W->Prop
  | rep {u:U} {w:W}:Rep v u w->a7 v h u w
  | own {r:Nat} {o:O} {w:W}:h[r]?=some o->dI v o w->mq v r->a7 v h (.ref r) w
inductive fg (v:Vw) (h:Hm):List U->List W->Prop
  | nil:fg v h [] []
  | cons {u:U} {w:W} {us:List U} {ws:List W}:a7 v h u w->fg v h us ws->fg v h (u::us) (w::ws)
section
variable {v v' v'':Vw} {h h' h'':Hm} {g g' g'':G}
theorem a7.up {u:U} {w:W} (r:a7 v h u w) (d:Wd v h g) (a:dz v h g v' h' g'):a7 v' h' u w:=by
  cases r with
  | rep r=>exact .rep (r.up (a.le d))
  | own e ro f=>exact .own (f.at a e) (ro.up (a.le d)) (f.up a (gEsZ.mp e).1)
theorem fg.up {us:List U} {ws:List W} (r:fg v h us ws) (d:Wd v h g) (a:dz v h g v' h' g'):fg v' h' us ws:=by
  induction r with
  | nil=>exact .nil
  | cons x _ ih=>exact .cons (x.up d a) ih
theorem fg.of {us:List U} {ws:List W} (r:aO v us ws):fg v h us ws:=by
  induction us generalizing ws with
  | nil=>cases r;exact .nil
  | cons u us ih=>
    cases r with
    | cons a b=>exact .cons (.rep a) (ih b)
theorem a7.obj {u:U} {w:W} (r:a7 v h u w) (d:Wd v h g) (hw:match w with
  | .lst _=>True
  | .cq _=>True
  | .dN _=>True
  | .dL _=>True
  | .ins _ _=>True
  | _=>False):∃ i o,u=.ref i/\h[i]?=some o/\dI v o w:=by
  cases r with
  | own e ro f=>exact⟨_,_,rfl,e,ro⟩
  | rep r=>
    cases r with
    | fro e=>obtain⟨o,a,b⟩:=d.fz _ _ e;exact⟨_,_,rfl,a,b⟩
    | _=>exact hw.elim
theorem a7.lst {u:U} {ws:List W} (r:a7 v h u (.lst ws)) (d:Wd v h g):∃ i us,u=.ref i/\h[i]?=some (.lst us)/\aO v us ws:=by
  obtain⟨i,o,a,b,c⟩:=r.obj d trivial;cases o with
  | lst us=>exact⟨i,us,a,b,c⟩
  | _=>exact c.elim
theorem a7.cq {u:U} {ws:List (W × W)} (r:a7 v h u (.cq ws)) (d:Wd v h g):∃ i us,u=.ref i/\h[i]?=some (.cq us)/\ff v us ws:=by
  obtain⟨i,o,a,b,c⟩:=r.obj d trivial;cases o with
  | cq us=>exact⟨i,us,a,b,c⟩
  | _=>exact c.elim
theorem a7.dN {u:U} {ws:List (W × W)} (r:a7 v h u (.dN ws)) (d:Wd v h g):∃ i us,u=.ref i/\h[i]?=some (.dN us)/\ff v us ws:=by
  obtain⟨i,o,a,b,c⟩:=r.obj d trivial;cases o with
  | dN us=>exact⟨i,us,a,b,c⟩
  | _=>exact c.elim
theorem a7.dL {u:U} {ws:List (W × W)} (r:a7 v h u (.dL ws)) (d:Wd v h g):∃ i us,u=.ref i/\h[i]?=some (.dL us)/\ff v us ws:=by
  obtain⟨i,o,a,b,c⟩:=r.obj d trivial;cases o with
  | dL us=>exact⟨i,us,a,b,c⟩
  | _=>exact c.elim
theorem a7.ins {u:U} {c:Str} {ws:List (Str × W)} (r:a7 v h u (.ins c ws)) (d:Wd v h g):∃ i us,u=.ref i/\h[i]?=some (.ins c us)/\jg v us ws:=by
  obtain⟨i,o,a,b,c⟩:=r.obj d trivial;cases o with
  | ins c' us=>
    obtain⟨rfl,c⟩:=c;exact⟨i,us,a,b,c⟩
  | _=>exact c.elim
theorem a7.d6 {u:U} {k:Nat} (r:a7 v h u (.d6 k)) (d:Wd v h g):∃ i,u=.ref i/\v.cm k=some i:=by
  cases r with
  | own e ro f=>
    rename_i o;cases o<;>exact ro.elim
  | rep r=>
    cases r with
    | fro e=>
      obtain⟨o,a,b⟩:=d.fz _ _ e;cases o<;>exact b.elim
    | d6 e=>exact⟨_,rfl,e⟩
theorem a7.tup {u:U} {ws:List W} (r:a7 v h u (.tup ws)) (d:Wd v h g):∃ us,u=.tup us/\aO v us ws:=by
  cases r with
  | own e ro f=>
    rename_i o;cases o<;>exact ro.elim
  | rep r=>
    cases r with
    | fro e=>
      obtain⟨o,a,b⟩:=d.fz _ _ e;cases o<;>exact b.elim
    | tup e=>exact⟨_,rfl,e⟩
def Ic:W->Option U
  | .non=>some .non
  | .bl b=>some (.bl b)
  | .int i=>some (.int i)
  | .str x=>some (.str x)
  | .ty n=>some (.ty n)
  | .glo x=>some (.glo x)
  | .adr a=>some (.adr a)
  | _=>none
theorem a7.flat {u u':U} {w:W} (r:a7 v h u w) (d:Wd v h g) (e:Ic w=some u'):u=u':=by
  cases r with
  | own e' ro f=>
    rename_i o
    cases o<;>cases w<;>first
      | exact ro.elim
      | cases e
  | rep r=>
    cases r with
    | fro e'=>
      obtain⟨o,a,b⟩:=d.fz _ _ e'
      cases o<;>cases w<;>first
        | exact b.elim
        | cases e
    | _=>cases e<;>rfl
theorem a7.ke {u:U} (r:a7 v h u .non) (d:Wd v h g):u=.non:=r.flat d rfl
theorem a7.rq {u:U} {b:Bool} (r:a7 v h u (.bl b)) (d:Wd v h g):u=.bl b:=r.flat d rfl
theorem a7.cG {u:U} {b:Int} (r:a7 v h u (.int b)) (d:Wd v h g):u=.int b:=r.flat d rfl
theorem a7.c5 {u:U} {b:List Nat} (r:a7 v h u (.str b)) (d:Wd v h g):u=.str b:=r.flat d rfl
theorem a7.Kf {u:U} {b:String} (r:a7 v h u (.ty b)) (d:Wd v h g):u=.ty b:=r.flat d rfl
theorem a7.F4 {u:U} {b:Str} (r:a7 v h u (.glo b)) (d:Wd v h g):u=.glo b:=r.flat d rfl
theorem a7.HS {u:U} {b:Addr} (r:a7 v h u (.adr b)) (d:Wd v h g):u=.adr b:=r.flat d rfl
end
end PQ

namespace PQ
open PySem UL
abbrev cA:=List (Option W)
abbrev PE:=cA->G->PR W
abbrev PT:=cA->G->PR Bool
abbrev PA:=cA->G->PR (List W)
abbrev jS:=List W->G->PR W
structure br (v:Vw) (h:Hm) (n0:Nat) (ow:List Nat) (su:En) (we:cA):Prop where
  len:su.length=we.length
  val:∀ s w,s ∉ ow->we[s]?=some (some w)->∃ u,su[s]?=some (some u)/\Rep v u w
  own:∀ s,s∈ow->∃ r o w,su[s]?=some (some (.ref r))/\we[s]?=some (some w)/\h[r]?=some o/\dI v o w/\mq v r/\n0<=r
  dis:∀ s s' r,s∈ow->s'∈ow->su[s]?=some (some (U.ref r))->su[s']?=some (some (U.ref r))->s=s'
section
variable {v v' v'':Vw} {h h' h'':Hm} {g g' g'':G} {n0:Nat} {ow:List Nat} {su:En} {we:cA}
theorem br.up (e:br v h n0 ow su we) (d:Wd v h g) (a:dz v h g v' h' g'):br v' h' n0 ow su we:=
  ⟨e.len,fun s w hs hw=>by
    obtain⟨u,hu,r⟩:=e.val s w hs hw;exact⟨u,hu,r.up (a.le d)⟩,fun s hs=>by
    obtain⟨r,o,w,h1,h2,h3,h4,h5,h6⟩:=e.own s hs;exact⟨r,o,w,h1,h2,h5.at a h3,h4.up (a.le d),h5.up a (gEsZ.mp h3).1,h6⟩,e.dis⟩
theorem br.rd (e:br v h n0 ow su we) {s:Nat} {w:W} (q:we[s]?=some (some w)):∃ u,su[s]?=some (some u)/\a7 v h u w:=by
  by_cases hs:s∈ow
  . obtain⟨r,o,w',h1,h2,h3,h4,h5,h6⟩:=e.own s hs
    rw[q] at h2;cases h2
    exact⟨_,h1,.own h3 h4 h5⟩
  . obtain⟨u,hu,r⟩:=e.val s w hs q
    exact⟨u,hu,.rep r⟩
end
abbrev RL (α β:Type):=Vw->Hm->α->β->Prop
def Res {α β:Type} (R:RL α β) (v:Vw) (h:Hm) (g:G) (r:Rs α) (q:PR β):Prop:=match q with
  | .ok b g'=>∃ a h' v',r=.ok a h'/\dz v h g v' h' g'/\R v' h' a b
  | .ex c fs g'=>∃ us h' v',r=.ex c us h'/\dz v h g v' h' g'/\jg v' us fs
  | .bad=>True
abbrev rRep:RL U W:=fun v _ u w=>Rep v u w
abbrev dq:RL U W:=fun v h u w=>a7 v h u w
abbrev jf:RL (List U) (List W):=fun v _ u w=>aO v u w
abbrev kO:RL (List U) (List W):=fun v h u w=>fg v h u w
abbrev rEq {α:Type}:RL α α:=fun _ _ a b=>a=b
def zg (n:Nat):RL U W:=fun v h u w=>∃ r o,u=.ref r/\n<=r/\h[r]?=some o/\dI v o w/\mq v r
section
variable {α β γ δ:Type} {R:RL α β} {R':RL γ δ} {v v' v'':Vw} {h h' h'':Hm} {g g' g'':G}
theorem Res.pre {r:Rs α} {q:PR β} (a:dz v h g v' h' g') (x:Res R v' h' g' r q):Res R v h g r q:=by
  cases q with
  | ok b g2=>obtain⟨y,h2,v2,e,s,r⟩:=x;exact⟨y,h2,v2,e,a.trans s,r⟩
  | ex c fs g2=>obtain⟨y,h2,v2,e,s,r⟩:=x;exact⟨y,h2,v2,e,a.trans s,r⟩
  | bad=>trivial
theorem Res.bind {r:Rs α} {q:PR β} {k:α->Hm->Rs γ} {kp:β->G->PR δ} (x:Res R v h g r q) (y:∀ a b v' h' g',dz v h g v' h' g'->R v' h' a b->Res R' v' h' g' (k a h') (kp b g')):Res R' v h g (r.bind k) (q.bind kp):=by
  cases q with
  | ok b g2=>
    obtain⟨a,h2,v2,rfl,s,r⟩:=x;exact Res.pre s (y a b v2 h2 g2 s r)
  | ex c fs g2=>
    obtain⟨a,h2,v2,rfl,s,r⟩:=x;exact⟨a,h2,v2,rfl,s,r⟩
  | bad=>trivial
theorem Res.ok {a:α} {b:β} (d:Wd v h g) (r:R v h a b):Res R v h g (.ok a h) (.ok b g):=⟨a,h,v,rfl,.refl d,r⟩
theorem Res.imp {R2:RL α β} {r:Rs α} {q:PR β} (x:Res R v h g r q) (y:∀ a b v' h' g',dz v h g v' h' g'->R v' h' a b->R2 v' h' a b):Res R2 v h g r q:=by
  cases q with
  | ok b g2=>obtain⟨a,h2,v2,e,s,r⟩:=x;exact⟨a,h2,v2,e,s,y _ _ _ _ _ s r⟩
  | ex c fs g2=>exact x
  | bad=>trivial
end
def JE {α β:Type} (R:RL α β) (ow:List Nat) (f:En->Hm->Rs α) (p:cA->G->PR β):Prop:=
  ∀ v h g n0 su we,Wd v h g->br v h n0 ow su we->Res R v h g (f su h) (p we g)
def JN (ow:List Nat) (f:FE) (p:PE):Prop:=∀ v h g n0 su we,Wd v h g->br v h n0 ow su we->Res (zg h.length) v h g (f su h) (p we g)
section
variable {ow:List Nat} {f fa fb fc:FE} {p pa pb pc:PE} {t t':FT} {pt pt':PT} {fr:FA} {pr:PA}
theorem JE.one (x:JE rRep ow f p):JE dq ow f p:=fun v h g n0 su we d e=>(x v h g n0 su we d e).imp fun a b v' h' g' s r=>.rep r
theorem Res.new {v:Vw} {h:Hm} {g:G} {r:Rs U} {q:PR W} {n:Nat} (hn:h.length<=n) (x:Res (zg n) v h g r q):Res rRep v h g r q:=by
  cases q with
  | ok b g2=>
    obtain⟨a,h2,v2,e,s,i,o,rfl,hi,ho,ro,f⟩:=x;exact⟨.ref i,h2,v2.frz i b,e,s.frz (Nat.le_trans hn hi) f ho ro,.fro Vw.lj⟩
  | ex c fs g2=>exact x
  | bad=>trivial
theorem JN.je (x:JN ow f p):JE rRep ow f p:=fun v h g n0 su we d e=>Res.new (Nat.le_refl _) (x v h g n0 su we d e)
def ah (i:Nat):PE:=fun we g=>match we[i]? with
  | some (some w)=>.ok w g
  | _=>.bad
def cE (w:W):PE:=fun _ g=>.ok w g
theorem au {i:Nat}:JE dq ow (UL.ah i) (ah i):=by
  intro v h g n0 su we d e;unfold ah;split
  . rename_i w q
    obtain⟨u,hu,r⟩:=e.rd q;unfold UL.ah;rw[hu];exact Res.ok d r
  . trivial
theorem JV {i:Nat} (hi:i ∉ ow):JE rRep ow (UL.ah i) (ah i):=by
  intro v h g n0 su we d e;unfold ah;split
  . rename_i w q
    obtain⟨u,hu,r⟩:=e.val _ _ hi q;unfold UL.ah;rw[hu];exact Res.ok d r
  . trivial
theorem hV {u:U} {w:W} (hc:∀ v,Rep v u w):JE rRep ow (UL.cE u) (cE w):=fun v h g n0 su we d e=>Res.ok d (hc v)
abbrev ka:=W->W->G->Option W
def lx (o:Option W) (g:G):PR W:=match o with
  | some w=>.ok w g
  | none=>.bad
def aM (o:ka) (fa fb:PE):PE:=fun we g=>(fa we g).bind fun a g1=>(fb we g1).bind fun b g2=>lx (o a b g2) g2
def JO (o:UL.G2) (p:ka):Prop:=∀ v h g u u' w w' z,Wd v h g->a7 v h u w->a7 v h u' w'->p w w' g=some z->∃ uz h' v',o u u' h=some (uz,h')/\dz v h g v' h' g/\Rep v' uz z
theorem Res.lift {v:Vw} {h:Hm} {g:G} {R:RL U W} {o:Option (U × Hm)} {q:Option W} (x:∀ z,q=some z->∃ uz h' v',o=some (uz,h')/\dz v h g v' h' g/\R v' h' uz z):Res R v h g (UL.bZ o) (lx q g):=by
  cases q with
  | none=>trivial
  | some z=>
    obtain⟨uz,h',v',e,s,r⟩:=x z rfl;exact⟨uz,h',v',by rw[e];rfl,s,r⟩
theorem aE {o:UL.G2} {po:ka} (ho:JO o po) (ha:JE dq ow fa pa) (hb:JE dq ow fb pb):JE rRep ow (UL.aM o fa fb) (aM po pa pb):=by
  intro v h g n0 su we d e;refine(ha v h g n0 su we d e).bind fun a x v1 h1 g1 s1 r1=>?_
  refine(hb v1 h1 g1 n0 su we s1.wd (e.up d s1)).bind fun b y v2 h2 g2 s2 r2=>?_
  exact Res.lift fun z hz=>ho v2 h2 g2 a b x y z s2.wd (r1.up s1.wd s2) r2 hz
def cb (f:PE):PT:=fun we g=>(f we g).bind fun u g1=>match u with
  | .bl b=>.ok b g1
  | _=>.bad
theorem a8 (ha:JE dq ow fa pa):JE rEq ow (UL.cb fa) (cb pa):=by
  intro v h g n0 su we d e;refine(ha v h g n0 su we d e).bind fun a x v1 h1 g1 s1 r1=>?_
  cases x with
  | bl b=>rw[r1.rq s1.wd];exact Res.ok s1.wd rfl
  | _=>trivial
def jn (o o':ka) (fa fb fc:PE):PE:=fun we g=>(fa we g).bind fun a g1=>(fb we g1).bind fun b g2=>(lx (o a b g2) g2).bind fun r g3=>match r with
  | .bl true=>(fc we g3).bind fun c g4=>lx (o' b c g4) g4
  | .bl false=>.ok (.bl false) g3
  | _=>.bad
theorem AI {o o':UL.G2} {po po':ka} (ho:JO o po) (ho':JO o' po') (ha:JE dq ow fa pa) (hb:JE dq ow fb pb) (hc:JE dq ow fc pc):JE rRep ow (UL.jn o o' fa fb fc) (jn po po' pa pb pc):=by
  intro v h g n0 su we d e;refine(ha v h g n0 su we d e).bind fun a x v1 h1 g1 s1 r1=>?_
  have e1:=e.up d s1;refine(hb v1 h1 g1 n0 su we s1.wd e1).bind fun b y v2 h2 g2 s2 r2=>?_
  have e2:=e1.up s1.wd s2;refine Res.bind (R:=rRep) (Res.lift fun z hz=>ho v2 h2 g2 a b x y z s2.wd (r1.up s1.wd s2) r2 hz) fun c z v3 h3 g3 s3 r3=>?_
  cases z with
  | bl k=>
    rw[(a7.rep r3).rq (h:=h3) s3.wd];cases k with
    | true=>
      refine(hc v3 h3 g3 n0 su we s3.wd (e2.up s2.wd s3)).bind fun q z v4 h4 g4 s4 r4=>?_
      exact Res.lift fun z' hz=>ho' v4 h4 g4 b q y z z' s4.wd ((r2.up s2.wd s3).up s3.wd s4) r4 hz
    | false=>exact Res.ok s3.wd (.bl _)
  | _=>trivial
def i9 (w:W) (g:G):Option Bool:=match w with
  | .non=>some false
  | .bl b=>some b
  | .int i=>some (i != 0)
  | .str x=>if x.length<=16777216 then some (x.length != 0) else none
  | .tup us=>some (!us.isEmpty)
  | .lst us=>some (!us.isEmpty)
  | .cq us=>some (!us.isEmpty)
  | _=>none
theorem aO.emp {v:Vw} {us:List U} {ws:List W} (r:aO v us ws):us.isEmpty=ws.isEmpty:=by cases r<;>rfl
theorem tru_ok {v:Vw} {h:Hm} {g:G} {u:U} {w:W} {b:Bool} (d:Wd v h g) (r:a7 v h u w) (e:i9 w g=some b):UL.ki u h=some b:=by
  cases w with
  | non=>rw[r.ke d];exact e
  | bl b=>rw[r.rq d];exact e
  | int b=>rw[r.cG d];exact e
  | str b=>rw[r.c5 d];exact e
  | tup ws=>
    obtain⟨us,rfl,rs⟩:=r.tup d;cases e
    show some (!us.isEmpty)=_;rw[rs.emp]
  | lst ws=>
    obtain⟨i,us,rfl,q,rs⟩:=r.lst d;cases e
    unfold UL.ki;simp only[q];rw[rs.emp]
  | cq ws=>
    obtain⟨i,us,rfl,q,rs⟩:=r.cq d;cases e
    unfold UL.ki;simp only[q];have:=rs.k.len;cases us<;>cases ws<;>simp_all
  | _=>cases e
def eV (f:PE):PT:=fun we g=>(f we g).bind fun u g1=>match i9 u g1 with
  | some k=>.ok k g1
  | none=>.bad
theorem gp (ha:JE dq ow fa pa):JE rEq ow (UL.eV fa) (eV pa):=by
  intro v h g n0 su we d e;refine(ha v h g n0 su we d e).bind fun a x v1 h1 g1 s1 r1=>?_
  cases q:i9 x g1 with
  | none=>trivial
  | some k=>rw[tru_ok s1.wd r1 q];exact Res.ok s1.wd rfl
def tq (fa fb:PE):PE:=fun we g=>(fa we g).bind fun u g1=>match i9 u g1 with
  | some true=>fb we g1
  | some false=>.ok u g1
  | none=>.bad
def CJ (fa fb:PE):PE:=fun we g=>(fa we g).bind fun u g1=>match i9 u g1 with
  | some true=>.ok u g1
  | some false=>fb we g1
  | none=>.bad
theorem Gg (ha:JE rRep ow fa pa) (hb:JE rRep ow fb pb):JE rRep ow (UL.tq fa fb) (tq pa pb):=by
  intro v h g n0 su we d e;refine(ha v h g n0 su we d e).bind fun a x v1 h1 g1 s1 r1=>?_
  cases q:i9 x g1 with
  | none=>trivial
  | some k=>
    rw[tru_ok s1.wd (.rep r1) q];cases k with
    | true=>exact hb v1 h1 g1 n0 su we s1.wd (e.up d s1)
    | false=>exact Res.ok s1.wd r1
theorem EY (ha:JE rRep ow fa pa) (hb:JE rRep ow fb pb):JE rRep ow (UL.CJ fa fb) (CJ pa pb):=by
  intro v h g n0 su we d e;refine(ha v h g n0 su we d e).bind fun a x v1 h1 g1 s1 r1=>?_
  cases q:i9 x g1 with
  | none=>trivial
  | some k=>
    rw[tru_ok s1.wd (.rep r1) q];cases k with
    | true=>exact Res.ok s1.wd r1
    | false=>exact hb v1 h1 g1 n0 su we s1.wd (e.up d s1)
def hW (t:PT):PT:=fun we g=>(t we g).bind fun k g1=>.ok (!k) g1
def kc (ta tb:PT):PT:=fun we g=>(ta we g).bind fun k g1=>if k=true then tb we g1 else .ok false g1
def uK (ta tb:PT):PT:=fun we g=>(ta we g).bind fun k g1=>if k=true then .ok true g1 else tb we g1
def pC (t:PT) (fa fb:PE):PE:=fun we g=>(t we g).bind fun k g1=>if k=true then fa we g1 else fb we g1
theorem ig (ha:JE rEq ow t pt):JE rEq ow (UL.hW t) (hW pt):=by
  intro v h g n0 su we d e;refine(ha v h g n0 su we d e).bind fun a x v1 h1 g1 s1 r1=>?_
  cases r1
  exact Res.ok s1.wd rfl
theorem lq (ha:JE rEq ow t pt) (hb:JE rEq ow t' pt'):JE rEq ow (UL.kc t t') (kc pt pt'):=by
  intro v h g n0 su we d e;refine(ha v h g n0 su we d e).bind fun a x v1 h1 g1 s1 r1=>?_
  cases r1
  cases a with
  | true=>exact hb v1 h1 g1 n0 su we s1.wd (e.up d s1)
  | false=>exact Res.ok s1.wd rfl
theorem rY (ha:JE rEq ow t pt) (hb:JE rEq ow t' pt'):JE rEq ow (UL.uK t t') (uK pt pt'):=by
  intro v h g n0 su we d e;refine(ha v h g n0 su we d e).bind fun a x v1 h1 g1 s1 r1=>?_
  cases r1
  cases a with
  | true=>exact Res.ok s1.wd rfl
  | false=>exact hb v1 h1 g1 n0 su we s1.wd (e.up d s1)
theorem qh {R:RL U W} (ht:JE rEq ow t pt) (ha:JE R ow fa pa) (hb:JE R ow fb pb):JE R ow (UL.pC t fa fb) (pC pt pa pb):=by
  intro v h g n0 su we d e;refine(ht v h g n0 su we d e).bind fun a x v1 h1 g1 s1 r1=>?_
  cases r1
  cases a with
  | true=>exact ha v1 h1 g1 n0 su we s1.wd (e.up d s1)
  | false=>exact hb v1 h1 g1 n0 su we s1.wd (e.up d s1)
theorem Res.Iq {v v':Vw} {h h':Hm} {g g':G} {r:Rs U} {q:PR W} {n n':Nat} (hn:n<=n') (x:Res (zg n') v h g r q):Res (zg n) v h g r q:=
  x.imp fun a b v' h' g' s ⟨i,o,e,hi,ho⟩=>⟨i,o,e,Nat.le_trans hn hi,ho⟩
def ai:PA:=fun _ g=>.ok [] g
def aa (f:PE) (fr:PA):PA:=fun we g=>(f we g).bind fun u g1=>(fr we g1).bind fun us g2=>.ok (u::us) g2
def jO:W->Option (List W)
  | .tup ws=>some ws
  | .lst ws=>some ws
  | _=>none
theorem kR {v:Vw} {h:Hm} {g:G} {u:U} {w:W} {ws:List W} (d:Wd v h g) (r:a7 v h u w) (e:jO w=some ws):∃ us,UL.cR u h=some us/\aO v us ws:=by
  cases w with
  | tup x=>
    cases e
    obtain⟨us,rfl,rs⟩:=r.tup d;exact⟨us,rfl,rs⟩
  | lst x=>
    cases e
    obtain⟨i,us,rfl,q,rs⟩:=r.lst d;exact⟨us,by unfold UL.cR;simp only[q],rs⟩
  | _=>cases e
def fG (f:PE) (fr:PA):PA:=fun we g=>(f we g).bind fun u g1=>match jO u with
  | some us=>(fr we g1).bind fun ws g2=>.ok (us++ws) g2
  | none=>.bad
theorem AF {R:RL (List U) (List W)} (hR:∀ v h,R v h [] []):JE R ow UL.ai ai:=fun v h g n0 su we d e=>Res.ok d (hR v h)
theorem ao:JE jf ow UL.ai ai:=AF fun _ _=>.nil
theorem aK:JE kO ow UL.ai ai:=AF fun _ _=>.nil
theorem ag (ha:JE rRep ow fa pa) (hr:JE jf ow fr pr):JE jf ow (UL.aa fa fr) (aa pa pr):=by
  intro v h g n0 su we d e;refine(ha v h g n0 su we d e).bind fun a x v1 h1 g1 s1 r1=>?_
  refine(hr v1 h1 g1 n0 su we s1.wd (e.up d s1)).bind fun b y v2 h2 g2 s2 r2=>?_
  exact Res.ok s2.wd (.cons (r1.up (s2.le s1.wd)) r2)
theorem aD (ha:JE dq ow fa pa) (hr:JE kO ow fr pr):JE kO ow (UL.aa fa fr) (aa pa pr):=by
  intro v h g n0 su we d e;refine(ha v h g n0 su we d e).bind fun a x v1 h1 g1 s1 r1=>?_
  refine(hr v1 h1 g1 n0 su we s1.wd (e.up d s1)).bind fun b y v2 h2 g2 s2 r2=>?_
  exact Res.ok s2.wd (.cons (r1.up s1.wd s2) r2)
theorem jV (ha:JE dq ow fa pa) (hr:JE jf ow fr pr):JE jf ow (UL.fG fa fr) (fG pa pr):=by
  intro v h g n0 su we d e;refine(ha v h g n0 su we d e).bind fun a x v1 h1 g1 s1 r1=>?_
  cases q:jO x with
  | none=>trivial
  | some ws=>
    obtain⟨us,hu,rs⟩:=kR s1.wd r1 q;simp only[hu];refine(hr v1 h1 g1 n0 su we s1.wd (e.up d s1)).bind fun b y v2 h2 g2 s2 r2=>?_
    exact Res.ok s2.wd ((rs.up (s2.le s1.wd)).app r2)
def cU (fr:PA):PE:=fun we g=>(fr we g).bind fun us g1=>if us.length<=16777216 then .ok (.tup us) g1 else .bad
theorem di (hr:JE jf ow fr pr):JE rRep ow (UL.cU fr) (cU pr):=by
  intro v h g n0 su we d e;refine(hr v h g n0 su we d e).bind fun a x v1 h1 g1 s1 r1=>?_
  rw[r1.len];split
  . exact Res.ok s1.wd (.tup r1)
  . trivial
def pM (ws:List W) (g:G):PR W:=if ws.length<=16777216 then .ok (.lst ws) g else .bad
theorem BU {v:Vw} {h:Hm} {g:G} {o:O} {w:W} (d:Wd v h g) (ro:dI v o w):dz v h g v (h++[o]) g/\zg h.length v (h++[o]) (.ref h.length) w:=
  ⟨.push d,h.length,o,rfl,Nat.le_refl _,by simp,ro,mq.new d⟩
theorem jL {v:Vw} {h:Hm} {g:G} {o:O} {w:W} (d:Wd v h g) (ro:dI v o w):dz v h g (v.frz h.length w) (h++[o]) g/\Rep (v.frz h.length w) (.ref h.length) w:=
  ⟨(dz.push d).frz (Nat.le_refl _) (mq.new d) (by simp) ro,.fro Vw.lj⟩
theorem Res.IC {v:Vw} {h:Hm} {g:G} {us:List U} {ws:List W} (d:Wd v h g) (r:aO v us ws):Res (zg h.length) v h g (UL.pM us h) (pM ws g):=by
  unfold UL.pM pM;rw[r.len];split
  . obtain⟨a,b⟩:=BU (o:=.lst us) (w:=.lst ws) d r
    exact⟨_,_,v,rfl,a,b⟩
  . trivial
def aP (fr:PA):PE:=fun we g=>(fr we g).bind pM
theorem aV (hr:JE jf ow fr pr):JN ow (UL.aP fr) (aP pr):=by
  intro v h g n0 su we d e;refine(hr v h g n0 su we d e).bind fun a x v1 h1 g1 s1 r1=>?_
  exact Res.Iq (v':=v1) (h':=h1) (g':=g1) s1.hl (Res.IC s1.wd r1)
def JF (F:Fn) (P:jS):Prop:=∀ v h g us ws,Wd v h g->aO v us ws->Res rRep v h g (F us h) (P ws g)
def aC (F:jS) (fa:PA):PE:=fun we g=>(fa we g).bind fun us g1=>F us g1
theorem aL {F:Fn} {P:jS} (hF:JF F P) (hr:JE jf ow fr pr):JE rRep ow (UL.aC F fr) (aC P pr):=by
  intro v h g n0 su we d e;exact(hr v h g n0 su we d e).bind fun a x v1 h1 g1 s1 r1=>hF v1 h1 g1 a x s1.wd r1
theorem aO.pick {v:Vw} {us:List U} {ws:List W} (r:aO v us ws):∀ idx:List Nat,aO v (UL.pick idx us) (UL.pick idx ws)
  | []=>.nil
  | i::idx=>by
    unfold UL.pick;simp only[List.filterMap_cons];cases q:ws[i]? with
    | none=>
      have:us[i]?=none:=by
        rw[List.getElem?_eq_none_iff] at q ⊢;rw[r.len];exact q
      rw[this];exact aO.pick r idx
    | some w=>
      obtain⟨u,hu,ru⟩:=r.get q;rw[hu];exact .cons ru (aO.pick r idx)
def JP (gU:List U->List U->List U) (gP:List W->List W->List W):Prop:=∀ v us ws xs ys,aO v us ws->aO v xs ys->aO v (gU us xs) (gP ws ys)
abbrev PB:=List W->G->Option W
def JB (b:GB) (p:PB):Prop:=∀ v h g us ws z,Wd v h g->fg v h us ws->p ws g=some z->∃ uz h' v',b us h=some (uz,h')/\dz v h g v' h' g/\Rep v' uz z
def aS (b:PB) (fr:PA):PE:=fun we g=>(fr we g).bind fun us g1=>lx (b us g1) g1
theorem bp {b:GB} {p:PB} (hb:JB b p) (hr:JE kO ow fr pr):JE rRep ow (UL.aS b fr) (aS p pr):=by
  intro v h g n0 su we d e;refine(hr v h g n0 su we d e).bind fun a x v1 h1 g1 s1 r1=>?_
  exact Res.lift fun z hz=>hb v1 h1 g1 a x z s1.wd r1 hz
abbrev PM:=W->List W->G->Option W
def Ht (T:MT) (w:W):Bool:=match T,w with
  | .str,.str _=>true
  | .list,.lst _=>true
  | .dict,.cq _=>true
  | _,_=>false
theorem Jc {v:Vw} {h:Hm} {g:G} {T:MT} {u:U} {w:W} (d:Wd v h g) (r:a7 v h u w) (e:Ht T w=true):UL.Fq T u h=true:=by
  unfold Ht at e;split at e
  . rw[r.c5 d];rfl
  . obtain⟨i,us,rfl,q,rs⟩:=r.lst d
    unfold UL.Fq;simp only[q]
  . obtain⟨i,us,rfl,q,rs⟩:=r.cq d
    unfold UL.Fq;simp only[q]
  . cases e
def JM (m:GM) (p:PM):Prop:=∀ v h g u w us ws z,Wd v h g->a7 v h u w->fg v h us ws->p w ws g=some z->∃ uz h' v',m u us h=some (uz,h')/\dz v h g v' h' g/\Rep v' uz z
def dy (T:MT) (m:PM) (fo:PE) (fr:PA):PE:=fun we g=>(fo we g).bind fun u g1=>if Ht T u=true then(fr we g1).bind fun us g2=>lx (m u us g2) g2 else .bad
theorem iy {T:MT} {m:GM} {p:PM} (hm:JM m p) (ha:JE dq ow fa pa) (hr:JE kO ow fr pr):JE rRep ow (UL.dy T m fa fr) (dy T p pa pr):=by
  intro v h g n0 su we d e;refine(ha v h g n0 su we d e).bind fun a x v1 h1 g1 s1 r1=>?_
  by_cases q:Ht T x=true
  . rw[if_pos q,if_pos (Jc s1.wd r1 q)]
    refine(hr v1 h1 g1 n0 su we s1.wd (e.up d s1)).bind fun b y v2 h2 g2 s2 r2=>?_
    exact Res.lift fun z hz=>hm v2 h2 g2 a x b y z s2.wd (r1.up s1.wd s2) r2 hz
  . simp only[if_neg q];exact True.intro
abbrev PP:=cA->G->PR (Option Int)
def jd:PP:=fun _ g=>.ok none g
def dR (f:PE):PP:=fun we g=>(f we g).bind fun u g1=>match u with
  | .int i=>.ok (some i) g1
  | _=>.bad
theorem nT:JE rEq ow UL.jd jd:=fun v h g n0 su we d e=>Res.ok d rfl
theorem iZ (ha:JE dq ow fa pa):JE rEq ow (UL.dR fa) (dR pa):=by
  intro v h g n0 su we d e;refine(ha v h g n0 su we d e).bind fun a x v1 h1 g1 s1 r1=>?_
  cases x with
  | int b=>rw[r1.cG s1.wd];exact Res.ok s1.wd rfl
  | _=>trivial
def Hc (w:W) (lo hi:Option Int):Option W:=match w with
  | .str z=>if z.length<=16777216 then some (.str (UL.cutU z lo hi)) else none
  | .tup ws=>some (.tup (UL.cutU ws lo hi))
  | .lst ws=>some (.lst (UL.cutU ws lo hi))
  | _=>none
theorem aO.cut {v:Vw} {us:List U} {ws:List W} (r:aO v us ws) (lo hi:Option Int):aO v (UL.cutU us lo hi) (UL.cutU ws lo hi):=by
  unfold UL.cutU;rw[r.len];exact(r.drop _).take _
def oW (fa:PE) (lo hi:PP):PE:=fun we g=>(fa we g).bind fun u g1=>(lo we g1).bind fun l g2=>(hi we g2).bind fun k g3=>lx (Hc u l k) g3
theorem IY {v:Vw} {h:Hm} {g:G} {u:U} {w z:W} {lo hi:Option Int} (d:Wd v h g) (r:a7 v h u w) (e:Hc w lo hi=some z):∃ uz h' v',UL.Ep u lo hi h=some (uz,h')/\dz v h g v' h' g/\Rep v' uz z:=by
  cases w with
  | str x=>
    rw[r.c5 d];simp only[Hc] at e;split at e
    . rename_i hl
      cases e
      exact⟨_,h,v,by unfold UL.Ep;simp only[hl,if_true],.refl d,.str _⟩
    . cases e
  | tup x=>
    obtain⟨us,rfl,rs⟩:=r.tup d;cases e
    exact⟨_,h,v,rfl,.refl d,.tup (rs.cut lo hi)⟩
  | lst x=>
    obtain⟨i,us,rfl,q,rs⟩:=r.lst d;cases e
    obtain⟨a,b⟩:=jL (o:=.lst (UL.cutU us lo hi)) (w:=.lst (UL.cutU x lo hi)) d (rs.cut lo hi);exact⟨.ref h.length,_,v.frz h.length _,by unfold UL.Ep;simp only[q],a,b⟩
  | _=>cases e
theorem nS {lo hi:En->Hm->Rs (Option Int)} {plo phi:PP} (ha:JE dq ow fa pa) (hl:JE rEq ow lo plo) (hh:JE rEq ow hi phi):JE rRep ow (UL.oW fa lo hi) (oW pa plo phi):=by
  intro v h g n0 su we d e;refine(ha v h g n0 su we d e).bind fun a x v1 h1 g1 s1 r1=>?_
  have e1:=e.up d s1;refine(hl v1 h1 g1 n0 su we s1.wd e1).bind fun b y v2 h2 g2 s2 r2=>?_
  cases r2
  refine(hh v2 h2 g2 n0 su we s2.wd (e1.up s1.wd s2)).bind fun c y v3 h3 g3 s3 r3=>?_
  cases r3
  exact Res.lift fun z hz=>IY s3.wd ((r1.up s1.wd s2).up s2.wd s3) hz
def kd (fa:PE):PE:=fun we g=>(fa we g).bind fun u g1=>match u with
  | .int i=>.ok (.int (-i)) g1
  | _=>.bad
theorem nR (ha:JE dq ow fa pa):JE rRep ow (UL.kd fa) (kd pa):=by
  intro v h g n0 su we d e;refine(ha v h g n0 su we d e).bind fun a x v1 h1 g1 s1 r1=>?_
  cases x with
  | int b=>rw[r1.cG s1.wd];exact Res.ok s1.wd (.int _)
  | _=>trivial
def o7 (tbl:List (List Nat × Int)) (fb:PE):PE:=fun we g=>(fb we g).bind fun w g1=>match w with
  | .str z=>match tbl.lookup z with
    | some i=>.ok (.int i) g1
    | none=>.bad
  | _=>.bad
theorem AK {tbl:List (List Nat × Int)} (ha:JE dq ow fa pa):JE rRep ow (UL.o7 tbl fa) (o7 tbl pa):=by
  intro v h g n0 su we d e;refine(ha v h g n0 su we d e).bind fun a x v1 h1 g1 s1 r1=>?_
  cases x with
  | str b=>
    rw[r1.c5 s1.wd];cases q:tbl.lookup b with
    | none=>simp only[q];trivial
    | some i=>simp only[q];exact Res.ok s1.wd (.int _)
  | _=>trivial
end
end PQ

namespace PQ
open PySem UL
section
variable {v v' v'':Vw} {h h' h'':Hm} {g g' g'':G} {u u':U} {w w' z:W}
def addW:ka:=fun a b _=>match a,b with
  | .int i,.int j=>some (.int (i + j))
  | .str x,.str y=>if x.length + y.length<=16777216 then some (.str (x++y)) else none
  | .tup us,.tup ws=>if us.length + ws.length<=16777216 then some (.tup (us++ws)) else none
  | .lst us,.lst ws=>if us.length + ws.length<=16777216 then some (.lst (us++ws)) else none
  | _,_=>none
theorem bV:JO UL.cP addW:=by
  intro v h g u u' w w' z d r r' e;unfold addW at e;split at e
  . cases e
    rw[r.cG d,r'.cG d];exact⟨_,h,v,rfl,.refl d,.int _⟩
  . split at e
    . rename_i hl
      cases e
      rw[r.c5 d,r'.c5 d];exact⟨_,h,v,by simp only[UL.cP,hl,if_true],.refl d,.str _⟩
    . cases e
  . split at e
    . rename_i hl
      cases e
      obtain⟨us,rfl,rs⟩:=r.tup d;obtain⟨us',rfl,rs'⟩:=r'.tup d;rw[<- rs.len,<- rs'.len] at hl;exact⟨_,h,v,by simp only[UL.cP,hl,if_true],.refl d,.tup (rs.app rs')⟩
    . cases e
  . split at e
    . rename_i hl
      cases e
      obtain⟨i,us,rfl,q,rs⟩:=r.lst d;obtain⟨i',us',rfl,q',rs'⟩:=r'.lst d;rw[<- rs.len,<- rs'.len] at hl;obtain⟨a,b⟩:=jL (o:=.lst (us++us')) (w:=.lst _) d (rs.app rs');exact⟨_,_,_,by simp only[UL.cP,q,q',hl,if_true],a,b⟩
    . cases e
  . cases e
def JL:ka:=fun a b _=>match a,b with
  | .lst us,.lst ws=>if us.length + ws.length<=16777216 then some (.lst (us++ws)) else none
  | _,_=>none
def Cy:ka:=fun a b _=>match a,b with
  | .int i,.int j=>some (.int (i - j))
  | _,_=>none
theorem AO:JO UL.zH Cy:=by
  intro v h g u u' w w' z d r r' e;unfold Cy at e;split at e
  . cases e
    rw[r.cG d,r'.cG d];exact⟨_,h,v,rfl,.refl d,.int _⟩
  . cases e
theorem aO.rep {us:List U} {ws:List W} (r:aO v us ws):∀ k:Nat,aO v (List.replicate k us).flatten (List.replicate k ws).flatten
  | 0=>.nil
  | k + 1=>by
    rw[List.replicate_succ,List.replicate_succ,List.flatten_cons,List.flatten_cons];exact r.app (aO.rep r k)
def sh:ka:=fun a b _=>match a,b with
  | .int i,.int j=>if UL.small64 i || UL.small64 j then some (.int (i * j)) else none
  | .str x,.int k=>if decide (-1000000<=k) && decide (k<=1000000) && decide (x.length * k.toNat<=16777216) then some (.str (List.replicate k.toNat x).flatten) else none
  | .lst ws,.int k=>if decide (-1000000<=k) && decide (k<=1000000) && decide (ws.length * k.toNat<=16777216) then some (.lst (List.replicate k.toNat ws).flatten) else none
  | .tup ws,.int k=>if decide (1<=ws.length) && decide (2<=k) && decide (k<=1000) && decide (ws.length<=1000) then some (.tup (List.replicate k.toNat ws).flatten) else none
  | _,_=>none
theorem vZ:JO UL.jh sh:=by
  intro v h g u u' w w' z d r r' e;unfold sh at e;split at e
  . split at e
    . rename_i hl
      cases e
      rw[r.cG d,r'.cG d];exact⟨_,h,v,by simp only[UL.jh,hl,if_true],.refl d,.int _⟩
    . cases e
  . split at e
    . rename_i hl
      cases e
      rw[r.c5 d,r'.cG d];exact⟨_,h,v,by simp only[UL.jh,hl,if_true],.refl d,.str _⟩
    . cases e
  . split at e
    . rename_i hl
      cases e
      obtain⟨i,us,rfl,q,rs⟩:=r.lst d;rw[r'.cG d];rw[<- rs.len] at hl;obtain⟨a,b⟩:=jL (o:=.lst (List.replicate _ us).flatten) (w:=.lst _) d (rs.rep _);exact⟨_,_,_,by simp only[UL.jh,q,hl,if_true],a,b⟩
    . cases e
  . split at e
    . rename_i hl
      cases e
      obtain⟨us,rfl,rs⟩:=r.tup d;rw[r'.cG d];rw[<- rs.len] at hl;exact⟨_,h,v,by simp only[UL.jh,hl,if_true],.refl d,.tup (rs.rep _)⟩
    . cases e
  . cases e
def se:ka:=fun a b _=>match a,b with
  | .int i,.int j=>if 0 < j then some (.int (i % j)) else none
  | _,_=>none
theorem r9:JO UL.og se:=by
  intro v h g u u' w w' z d r r' e;unfold se at e;split at e
  . split at e
    . rename_i hl
      cases e
      rw[r.cG d,r'.cG d];exact⟨_,h,v,by simp only[UL.og,hl,if_true],.refl d,.int _⟩
    . cases e
  . cases e
def tS:ka:=fun a b _=>match a,b with
  | .int i,.int j=>if 0 < j/\j < 1073741824 then some (.int (i / j)) else none
  | _,_=>none
theorem Dy:JO UL.tR tS:=by
  intro v h g u u' w w' z d r r' e;unfold tS at e;split at e
  . split at e
    . rename_i hl
      cases e
      rw[r.cG d,r'.cG d];exact⟨_,h,v,by simp only[UL.tR,hl,and_self,if_true],.refl d,.int _⟩
    . cases e
  . cases e
def vP (p:Int->Int->Bool):ka:=fun a b _=>match a,b with
  | .int i,.int j=>some (.bl (p i j))
  | _,_=>none
abbrev Js:ka:=vP fun i j=>decide (i < j)
abbrev KN:ka:=vP fun i j=>decide (i<=j)
abbrev KJ:ka:=vP fun i j=>decide (j < i)
abbrev geW:ka:=vP fun i j=>decide (j<=i)
theorem jx {p:Int->Int->Bool}:JO (UL.tE p) (vP p):=by
  intro v h g u u' w w' z d r r' e;unfold vP at e;split at e
  . cases e
    rw[r.cG d,r'.cG d];exact⟨_,h,v,rfl,.refl d,.bl _⟩
  . cases e
def ll:W->Option Bool
  | .non=>some true
  | .d6 _=>some false
  | .lst _=>some false
  | .cq _=>some false
  | .ins _ _=>some false
  | .tup _=>some false
  | .bl _=>some false
  | .int _=>some false
  | .str _=>some false
  | _=>none
def Jr (neg:Bool):ka:=fun a b _=>match b with
  | .non=>(ll a).map fun k=>.bl (if neg then !k else k)
  | _=>none
theorem F7 (d:Wd v h g) (r:a7 v h u w) {b:Bool} (e:ll w=some b):UL.Jq u=b:=by
  cases w with
  | non=>rw[r.ke d];cases e;rfl
  | bl b=>rw[r.rq d];cases e;rfl
  | int b=>rw[r.cG d];cases e;rfl
  | str b=>rw[r.c5 d];cases e;rfl
  | tup ws=>obtain⟨us,rfl,rs⟩:=r.tup d;cases e;rfl
  | lst ws=>obtain⟨i,us,rfl,q,rs⟩:=r.lst d;cases e;rfl
  | cq ws=>obtain⟨i,us,rfl,q,rs⟩:=r.cq d;cases e;rfl
  | ins c ws=>obtain⟨i,us,rfl,q,rs⟩:=r.ins d;cases e;rfl
  | d6 k=>obtain⟨i,rfl,q⟩:=r.d6 d;cases e;rfl
  | _=>cases e
theorem Ik {neg:Bool}:JO (UL.Az neg) (Jr neg):=by
  intro v h g u u' w w' z d r r' e;unfold Jr at e;split at e
  . cases q:ll w with
    | none=>rw[q] at e;cases e
    | some b=>
      rw[q] at e;cases e
      rw[r'.ke d];refine⟨.bl _,h,v,?_,.refl d,.bl _⟩;unfold UL.Az;simp only[F7 d r q]
  . cases e
def iT:Nat->W->Option PyData
  | 0,_=>none
  | k + 1,w=>match w with
    | .non=>some .none
    | .bl b=>some (.bool b)
    | .int i=>some (.int i)
    | .str x=>some (.str (S x))
    | .tup us=>(datWs (iT k) us).map .tuple
    | .lst us=>(datWs (iT k) us).map .list
    | _=>none
where datWs (f:W->Option PyData):List W->Option (List PyData)
  | []=>some []
  | u::us=>match f u,datWs f us with
    | some d,some ds=>some (d::ds)
    | _,_=>none
theorem rD {f:U->Option PyData} {p:W->Option PyData} (hf:∀ u w x,Rep v u w->p w=some x->f u=some x):∀ {us:List U} {ws:List W} {xs:List PyData},aO v us ws->iT.datWs p ws=some xs->UL.tK f us=some xs
  | [],_,_,r,e=>by cases r;exact e
  | u::us,_,xs,r,e=>by
    cases r with
    | cons a b=>
      unfold iT.datWs at e;split at e
      . rename_i x ys e1 e2
        cases e
        unfold UL.tK;rw[hf _ _ _ a e1,rD hf b e2]
      . cases e
theorem ny (d:Wd v h g):∀ {k:Nat} {u:U} {w:W} {x:PyData},a7 v h u w->iT k w=some x->UL.dat k h u=some x
  | 0,_,_,_,r,e=>by cases e
  | k + 1,u,w,x,r,e=>by
    cases w with
    | non=>rw[r.ke d];exact e
    | bl b=>rw[r.rq d];exact e
    | int b=>rw[r.cG d];exact e
    | str b=>rw[r.c5 d];exact e
    | tup ws=>
      obtain⟨us,rfl,rs⟩:=r.tup d;simp only[iT] at e;obtain⟨y,hy,e⟩:=mOsZ.mp e;simp only[UL.dat];rw[rD (fun u w x r e=>ny d (.rep r) e) rs hy,Option.map_some,e]
    | lst ws=>
      obtain⟨i,us,rfl,q,rs⟩:=r.lst d;simp only[iT] at e;obtain⟨y,hy,e⟩:=mOsZ.mp e;simp only[UL.dat,q];rw[rD (fun u w x r e=>ny d (.rep r) e) rs hy,Option.map_some,e]
    | _=>cases e
def Aj:W->W->Option Bool
  | .non,.non=>some true
  | .non,.bl _=>some false
  | .non,.int _=>some false
  | .non,.str _=>some false
  | .bl _,.non=>some false
  | .bl a,.bl b=>some (decide (a=b))
  | .bl _,.str _=>some false
  | .int _,.non=>some false
  | .int a,.int b=>some (decide (a=b))
  | .int _,.str _=>some false
  | .str _,.non=>some false
  | .str _,.bl _=>some false
  | .str _,.int _=>some false
  | .str a,.str b=>some (decide (a=b))
  | _,_=>none
def c7:W->Bool
  | .non=>true
  | .bl _=>true
  | .int _=>true
  | .str _=>true
  | _=>false
def eqB (a b:W):Option Bool:=match Aj a b with
  | some k=>some k
  | none=>match iT 12 a,iT 12 b with
    | some x,some y=>if SeqAt.shaped x && SeqAt.shaped y then some (PyData.eqv x y) else none
    | _,_=>none
theorem rG (d:Wd v h g) (r:a7 v h u w) (r':a7 v h u' w') {b:Bool} (e:Aj w w'=some b):UL.HY u u'=some b:=by
  unfold Aj at e
  split at e<;>first
    | (cases e;done)
    | (first | rw[r.ke d] | rw[r.rq d] | rw[r.cG d] | rw[r.c5 d]
       first | rw[r'.ke d] | rw[r'.rq d] | rw[r'.cG d] | rw[r'.c5 d]
       exact e)
theorem Ak (d:Wd v h g) (r:a7 v h u w) (r':a7 v h u' w') {x y:PyData} {k l:Nat} (e:Aj w w'=none) (e1:iT k w=some x) (e2:iT l w'=some y):UL.HY u u'=none:=by
  have key:∀ {u:U} {w:W} {x:PyData} {k:Nat},a7 v h u w->iT k w=some x->u=.non/\w=.non\/(∃ b,u=.bl b/\w=.bl b)\/(∃ b,u=.int b/\w=.int b)\/(∃ b,u=.str b/\w=.str b)\/((∃ us,u=.tup us)\/∃ i,u=.ref i):=by
    intro u w x k r e;cases k with
    | zero=>cases e
    | succ k=>
      cases w with
      | non=>exact .inl ⟨r.ke d,rfl⟩
      | bl b=>exact .inr (.inl ⟨b,r.rq d,rfl⟩)
      | int b=>exact .inr (.inr (.inl ⟨b,r.cG d,rfl⟩))
      | str b=>exact .inr (.inr (.inr (.inl ⟨b,r.c5 d,rfl⟩)))
      | tup ws=>obtain⟨us,rfl,rs⟩:=r.tup d;exact .inr (.inr (.inr (.inr (.inl ⟨us,rfl⟩))))
      | lst ws=>obtain⟨i,us,rfl,q,rs⟩:=r.lst d;exact .inr (.inr (.inr (.inr (.inr ⟨i,rfl⟩))))
      | _=>cases e
  rcases key r e1 with ⟨rfl,rfl⟩ | ⟨b,rfl,rfl⟩ | ⟨b,rfl,rfl⟩ | ⟨b,rfl,rfl⟩ | (⟨us,rfl⟩ | ⟨i,rfl⟩)<;>rcases key r' e2 with ⟨rfl,rfl⟩ | ⟨c,rfl,rfl⟩ | ⟨c,rfl,rfl⟩ | ⟨c,rfl,rfl⟩ | (⟨us',rfl⟩ | ⟨i',rfl⟩)<;>first
    | rfl
    | cases e
theorem Ah (d:Wd v h g) (r:a7 v h u w) (r':a7 v h u' w') {b:Bool} (e:eqB w w'=some b):UL.eqB h u u'=some b:=by
  unfold eqB at e;split at e
  . rename_i k q
    cases e
    unfold UL.eqB;rw[rG d r r' q]
  . rename_i q
    split at e
    . rename_i x y e1 e2
      unfold UL.eqB UL.Jo;rw[Ak d r r' q e1 e2,ny d r e1,ny d r' e2];exact e
    . cases e
def kj:ka:=fun a b _=>(eqB a b).map .bl
def wg:ka:=fun a b _=>(eqB a b).map fun k=>.bl (!k)
theorem cQ:JO UL.eqU kj:=by
  intro v h g u u' w w' z d r r' e;obtain⟨b,hb,rfl⟩:=mOsZ.mp e;exact⟨_,h,v,by unfold UL.eqU;rw[Ah d r r' hb];rfl,.refl d,.bl _⟩
theorem qj:JO UL.Be wg:=by
  intro v h g u u' w w' z d r r' e;obtain⟨b,hb,rfl⟩:=mOsZ.mp e;exact⟨_,h,v,by unfold UL.Be;rw[Ah d r r' hb];rfl,.refl d,.bl _⟩
def lV:W->W->Bool
  | .non,.non=>true
  | .bl a,.bl b=>a == b
  | .bl a,.int b=>(if a then 1 else 0) == b
  | .int a,.bl b=>a == (if b then 1 else 0)
  | .int a,.int b=>a == b
  | .str a,.str b=>a == b
  | _,_=>false
theorem tW (d:Wd v h g) (r:a7 v h u w) (e:c7 w=true):UL.ia u=true:=by
  cases w<;>first
    | (first | rw[r.ke d] | rw[r.rq d] | rw[r.cG d] | rw[r.c5 d]
       rfl)
    | cases e
theorem vQ (d:Wd v h g) (r:a7 v h u w) (r':a7 v h u' w') (e:c7 w=true) (e':c7 w'=true):UL.ET u u'=lV w w':=by
  cases w<;>first
    | (first | rw[r.ke d] | rw[r.rq d] | rw[r.cG d] | rw[r.c5 d]
       cases w'<;>first
         | (first | rw[r'.ke d] | rw[r'.rq d] | rw[r'.cG d] | rw[r'.c5 d]
            rfl)
         | (cases e';done))
    | (cases e;done)
theorem tX (d:Wd v h g):∀ {us:List U} {ws:List W},aO v us ws->ws.all c7=true->us.all UL.ia=true
  | [],_,r,e=>rfl
  | u::us,_,r,e=>by
    cases r with
    | cons a b=>
      simp only[List.all_cons,Bool.and_eq_true] at e ⊢;exact⟨tW d (.rep a) e.1,tX d b e.2⟩
theorem wX (d:Wd v h g) {u:U} {w:W} (r:a7 v h u w) (e:c7 w=true):∀ {us:List U} {ws:List W},aO v us ws->ws.all c7=true->(us.any fun y=>UL.ET y u)=ws.any fun y=>lV y w
  | [],_,rs,e'=>by cases rs;rfl
  | x::us,_,rs,e'=>by
    cases rs with
    | cons a b=>
      simp only[List.all_cons,Bool.and_eq_true] at e';simp only[List.any_cons];rw[vQ d (.rep a) r e'.1 e,wX d r e b e'.2]
def rM (a b:W):Option Bool:=match a,b with
  | .str [c],.str z=>some (decide (c∈z))
  | a,b=>match jO b with
    | some ws=>if c7 a && ws.all c7 then some (ws.any fun y=>lV y a) else none
    | none=>none
theorem Aw (d:Wd v h g) (r:a7 v h u w) (r':a7 v h u' w') {b:Bool} (e:rM w w'=some b):UL.Av u u' h=some b:=by
  unfold rM at e;split at e
  . cases e
    rw[r.c5 d,r'.c5 d];rfl
  . rename_i hn
    split at e
    . rename_i ws q
      split at e
      . rename_i hf
        simp only[Bool.and_eq_true] at hf;cases e
        obtain⟨us,hu,rs⟩:=kR d r' q
        have:UL.Av u u' h=(match UL.cR u' h with
          | some us=>if UL.ia u && us.all UL.ia then some (us.any fun y=>UL.ET y u) else none
          | none=>none):=by
          unfold UL.Av;split
          . rename_i c z
            cases hu
          . rfl
        rw[this,hu];simp only[tW d r hf.1,tX d rs hf.2,Bool.and_self,if_true,wX d r hf.1 rs hf.2]
      . cases e
    . cases e
inductive Ky where
  | non | num (i:Int) | txt (x:List Nat) | tup (ks:List Ky)
def d4:W->Option (Int ⊕ List Nat)
  | .int i=>some (.inl i)
  | .str x=>some (.inr x)
  | _=>none
def gC:List (W × W)->Int ⊕ List Nat->Option W
  | [],_=>none
  | (k,u)::r,q=>if d4 k=some q then some u else gC r q
def v5:Int ⊕ List Nat->L2.Key
  | .inl i=>.inl i
  | .inr x=>.inr (S x)
theorem nU {a b:Int ⊕ List Nat} (e:v5 a=v5 b):a=b:=by
  cases a<;>cases b<;>simp[v5,S] at e<;>simp[e]
theorem i3 (d:Wd v h g) (r:a7 v h u w) {q:Int ⊕ List Nat} (e:d4 w=some q):UL.eS u=some (v5 q):=by
  unfold d4 at e;split at e
  . rw[r.cG d];cases e;rfl
  . rw[r.c5 d];cases e;rfl
  . cases e
end
end PQ

namespace PQ
open PySem UL
section
variable {v v' v'':Vw} {h h' h'':Hm} {g g' g'':G} {u u':U} {w w' z:W}
def Ih (a b:W):Option W:=match b with
  | .int i=>match a with
    | .str z=>if z.length<=16777216 then(L2.atI z i).map fun c=>.str [c] else none
    | a=>match jO a with
      | some ws=>L2.atI ws i
      | none=>none
  | _=>none
def vF:ka:=fun a b g=>match a with
  | .cq kvs=>(d4 b).bind fun q=>gC kvs q
  | .d6 k=>match g[k]? with
    | some (.lst ws)=>Ih (.lst ws) b
    | _=>none
  | a=>Ih a b
theorem aO.atI {us:List U} {ws:List W} {i:Int} (r:aO v us ws) (e:L2.atI ws i=some w):∃ u,L2.atI us i=some u/\Rep v u w:=by
  unfold L2.atI at e ⊢;rw[r.len];cases q:L2.ixN ws.length i with
  | none=>rw[q] at e;cases e
  | some j=>rw[q] at e;exact r.get e
theorem F9 (d:Wd v h g) (r:a7 v h u w) (r':a7 v h u' w') (e:Ih w w'=some z):∃ uz,UL.yH u u' h=some (uz,h)/\Rep v uz z:=by
  unfold Ih at e;split at e
  . rename_i i
    rw[r'.cG d];split at e
    . rename_i x
      split at e
      . rename_i hl
        obtain⟨c,hc,rfl⟩:=mOsZ.mp e;rw[r.c5 d];exact⟨_,by simp only[UL.yH,hl,if_true,hc];rfl,.str _⟩
      . cases e
    . rename_i hn
      split at e
      . rename_i ws q
        obtain⟨us,hu,rs⟩:=kR d r q;obtain⟨uz,hz,rz⟩:=rs.atI e;refine⟨uz,?_,rz⟩;unfold UL.yH;cases u with
        | str x=>cases hu
        | _=>simp only[hu,hz];rfl
      . cases e
  . cases e
theorem rE (d:Wd v h g) {q:Int ⊕ List Nat}:∀ {us:List (U × U)} {ws:List (W × W)},ff v us ws->(∀ p∈ws,(d4 p.1).isSome=true)->gC ws q=some z->∃ uz,UL.la us (v5 q)=some uz/\Rep v uz z
  | [],ws,r,hk,e=>by
    have:=r.k.len;cases ws with
    | nil=>cases e
    | cons a b=>simp at this
  | (ku,xu)::us,ws,r,hk,e=>by
    cases ws with
    | nil=>cases e
    | cons a ws=>
      obtain⟨kw,xw⟩:=a;obtain⟨r1,r2⟩:=r;cases r1 with
      | cons k1 k2=>
        cases r2 with
        | cons x1 x2=>
          obtain⟨qk,hq⟩:=Option.isSome_iff_exists.mp (hk (kw,xw) List.mem_cons_self);have hu:=i3 d (.rep k1) hq;unfold gC at e;unfold UL.la;rw[hq] at e
          by_cases z:qk=q
          . subst z
            rw[if_pos rfl] at e;cases e
            rw[if_pos hu];exact⟨xu,rfl,x1⟩
          . rw[if_neg fun y=>z (Option.some.inj y)] at e
            rw[if_neg fun y=>z (nU (Option.some.inj (hu.symm.trans y)))]
            exact rE d ⟨k2,x2⟩ (fun p hp=>hk p (List.mem_cons_of_mem _ hp)) e
theorem tM (d:Wd v h g) {q:Int ⊕ List Nat}:∀ {us:List (U × U)} {ws:List (W × W)},ff v us ws->(∀ p∈ws,(d4 p.1).isSome=true)->gC ws q=none->UL.la us (v5 q)=none
  | [],ws,r,hk,e=>rfl
  | (ku,xu)::us,ws,r,hk,e=>by
    cases ws with
    | nil=>have:=r.k.len;simp at this
    | cons a ws=>
      obtain⟨kw,xw⟩:=a;obtain⟨r1,r2⟩:=r;cases r1 with
      | cons k1 k2=>
        cases r2 with
        | cons x1 x2=>
          obtain⟨qk,hq⟩:=Option.isSome_iff_exists.mp (hk (kw,xw) List.mem_cons_self);have hu:=i3 d (.rep k1) hq;unfold gC at e;unfold UL.la;rw[hq] at e
          by_cases z:qk=q
          . subst z
            rw[if_pos rfl] at e;cases e
          . rw[if_neg fun y=>z (Option.some.inj y)] at e
            rw[if_neg fun y=>z (nU (Option.some.inj (hu.symm.trans y)))]
            exact tM d ⟨k2,x2⟩ (fun p hp=>hk p (List.mem_cons_of_mem _ hp)) e
def c6 (kvs:List (W × W)):Bool:=kvs.all fun p=>(d4 p.1).isSome
theorem lY {kvs:List (W × W)} (h:c6 kvs=true):∀ p∈kvs,(d4 p.1).isSome=true:=List.all_eq_true.mp h
end
def Dk:ka:=fun a b g=>match a with
  | .cq kvs=>if c6 kvs=true then(d4 b).bind fun q=>gC kvs q else none
  | a=>vF a b g
section
variable {v v' v'':Vw} {h h' h'':Hm} {g g' g'':G} {u u':U} {w w' z:W}
theorem Ds {r:Nat} {us:List U} {i:Int} (q:h[r]?=some (.lst us)):UL.yH (.ref r) (.int i) h=(L2.atI us i).map fun v=>(v,h):=by
  simp[UL.yH,UL.cR,q]
theorem Gh:JO UL.vF Dk:=by
  intro v h g u u' w w' z d r r' e;unfold Dk at e;split at e
  . rename_i kvs
    split at e
    . rename_i hk
      obtain⟨i,us,rfl,q,rs⟩:=r.cq d;obtain⟨k,h1,h2⟩:=Option.bind_eq_some_iff.mp e;obtain⟨uz,hz,rz⟩:=rE d rs (lY hk) h2;exact⟨uz,h,v,by unfold UL.vF;simp only[q,i3 d r' h1,Option.bind_some,hz];rfl,.refl d,rz⟩
    . cases e
  . rename_i hn
    unfold vF at e;split at e
    . exact absurd rfl (hn _)
    . rename_i k
      obtain⟨i,rfl,hi⟩:=r.d6 d;split at e
      . rename_i ws q
        obtain⟨i',o,a,b,c,ro⟩:=d.cm k _ q;rw[hi] at a;cases a
        cases o with
        | lst us=>
          unfold Ih at e;split at e
          . rename_i j
            rw[r'.cG d];obtain⟨uz,hz,rz⟩:=aO.atI (v:=v) ro e;refine⟨uz,h,v,?_,.refl d,rz⟩;have:UL.vF (.ref i) (.int j) h=UL.yH (.ref i) (.int j) h:=by unfold UL.vF;simp only[c]
            rw[this,Ds c,hz];rfl
          . cases e
        | _=>exact ro.elim
      . cases e
    . rename_i hn1 hn2
      obtain⟨uz,hz,rz⟩:=F9 d r r' e;refine⟨uz,h,v,?_,.refl d,rz⟩;rw[<- hz];unfold UL.vF;split
      . rename_i i
        split
        . rename_i kvs q
          exfalso
          unfold UL.yH UL.cR at hz;simp only[q] at hz;cases u'<;>cases hz
        . rfl
      . rfl
mutual
def Ir:W->Option NestedKey
  | .non=>some .none
  | .bl b=>some (.num (if b=true then 1 else 0))
  | .int i=>some (.num i)
  | .str x=>some (.text (UL.S x))
  | .tup ws=>(Bf ws).map NestedKey.tup
  | .ty _=>none
  | .glo _=>none
  | .adr _=>none
  | .lst _=>none
  | .cq _=>none
  | .dN _=>none
  | .dL _=>none
  | .ins _ _=>none
  | .d6 _=>none
def Bf:List W->Option (List NestedKey)
  | []=>some []
  | u::us=>(Ir u).bind fun k=>(Bf us).map fun ks=>k::ks
end
def dO:W->Option NestedKey
  | .tup us=>(Ir (.tup us)).bind fun k=>if k.depth<=8 then some k else none
  | _=>none
mutual
theorem E6 (d:Wd v h g):∀ (w:W) (u:U),a7 v h u w->UL.E4 u=Ir w
  | .non,u,r=>by rw[r.ke d];rfl
  | .bl b,u,r=>by rw[r.rq d];rfl
  | .int i,u,r=>by rw[r.cG d];rfl
  | .str x,u,r=>by rw[r.c5 d];rfl
  | .tup ws,u,r=>by
    obtain⟨us,rfl,rs⟩:=r.tup d;show(UL.uE us).map NestedKey.tup=(Bf ws).map NestedKey.tup;rw[Bh d ws us rs]
  | .ty _,u,r=>by rw[r.Kf d];rfl
  | .glo _,u,r=>by rw[r.F4 d];rfl
  | .adr _,u,r=>by rw[r.HS d];rfl
  | .lst _,u,r=>by obtain⟨_,_,rfl,_⟩:=r.lst d;rfl
  | .cq _,u,r=>by obtain⟨_,_,rfl,_⟩:=r.cq d;rfl
  | .dN _,u,r=>by obtain⟨_,_,rfl,_⟩:=r.dN d;rfl
  | .dL _,u,r=>by obtain⟨_,_,rfl,_⟩:=r.dL d;rfl
  | .ins _ _,u,r=>by obtain⟨_,_,rfl,_⟩:=r.ins d;rfl
  | .d6 _,u,r=>by obtain⟨_,rfl,_⟩:=r.d6 d;rfl
theorem Bh (d:Wd v h g):∀ (ws:List W) (us:List U),aO v us ws->UL.uE us=Bf ws
  | [],us,r=>by cases r;rfl
  | w::ws,us,r=>by
    cases r with
    | cons a b=>
      show((UL.E4 _).bind fun k=>(UL.uE _).map fun ks=>k::ks)=((Ir w).bind fun k=>(Bf ws).map fun ks=>k::ks)
      rw[E6 d w _ (.rep a),Bh d ws _ b]
end
theorem jY (d:Wd v h g) (r:a7 v h u w):UL.dO u=dO w:=by
  cases w with
  | tup ws=>
    have e:=E6 d _ _ r;obtain⟨us,rfl,rs⟩:=r.tup d;show((UL.E4 (.tup us)).bind fun k=>if k.depth<=8 then some k else none)=((Ir (.tup ws)).bind fun k=>if k.depth<=8 then some k else none)
    rw[e]
  | non=>rw[r.ke d];rfl
  | bl b=>rw[r.rq d];rfl
  | int i=>rw[r.cG d];rfl
  | str x=>rw[r.c5 d];rfl
  | ty _=>rw[r.Kf d];rfl
  | glo _=>rw[r.F4 d];rfl
  | adr _=>rw[r.HS d];rfl
  | lst _=>obtain⟨_,_,rfl,_⟩:=r.lst d;rfl
  | cq _=>obtain⟨_,_,rfl,_⟩:=r.cq d;rfl
  | dN _=>obtain⟨_,_,rfl,_⟩:=r.dN d;rfl
  | dL _=>obtain⟨_,_,rfl,_⟩:=r.dL d;rfl
  | ins _ _=>obtain⟨_,_,rfl,_⟩:=r.ins d;rfl
  | d6 _=>obtain⟨_,rfl,_⟩:=r.d6 d;rfl
def lB:List (W × W)->NestedKey->Option W
  | [],_=>none
  | (k,u)::r,q=>if dO k=some q then some u else lB r q
theorem mS (d:Wd v h g) {q:NestedKey}:∀ {us:List (U × U)} {ws:List (W × W)},ff v us ws->(lB ws q=none->UL.iK us q=none)/\∀ z,lB ws q=some z->∃ uz,UL.iK us q=some uz/\Rep v uz z
  | [],ws,r=>by
    have:=r.k.len;cases ws with
    | nil=>exact⟨fun _=>rfl,fun z e=>by cases e⟩
    | cons a b=>simp at this
  | (ku,xu)::us,ws,r=>by
    cases ws with
    | nil=>have:=r.k.len;simp at this
    | cons a ws=>
      obtain⟨kw,xw⟩:=a;obtain⟨r1,r2⟩:=r;cases r1 with
      | cons k1 k2=>
        cases r2 with
        | cons x1 x2=>
          have hu:=jY d (.rep (h:=h) k1);unfold lB UL.iK;rw[hu]
          by_cases z:dO kw=some q
          . rw[if_pos z,if_pos z]
            exact⟨fun e=>(nomatch e),fun z e=>by cases e;exact⟨xu,rfl,x1⟩⟩
          . rw[if_neg z,if_neg z]
            exact mS d ⟨k2,x2⟩
def gn:ka:=fun a b g=>match a with
  | .dN kvs=>(dO b).bind fun q=>lB kvs q
  | a=>Dk a b g
theorem cD:JO UL.ixN gn:=by
  intro v h g u u' w w' z d r r' e;unfold gn at e;split at e
  . rename_i kvs
    obtain⟨i,us,rfl,q,rs⟩:=r.dN d;obtain⟨k,h1,h2⟩:=Option.bind_eq_some_iff.mp e;obtain⟨uz,hz,rz⟩:=(mS d rs).2 _ h2;exact⟨uz,h,v,by unfold UL.ixN;simp only[q,jY d r',h1,Option.bind_some,hz];rfl,.refl d,rz⟩
  . rename_i hn
    obtain⟨uz,h',v',e1,s,rz⟩:=Gh v h g u u' w w' z d r r' e;refine⟨uz,h',v',?_,s,rz⟩;unfold UL.ixN;split
    . rename_i i
      split
      . rename_i kvs q
        exfalso
        unfold UL.vF at e1;simp only[q] at e1;unfold UL.yH UL.cR at e1;simp only[q] at e1;cases u'<;>cases e1
      . exact e1
    . exact e1
def As (neg:Bool):ka:=fun a b g=>match b with
  | .cq kvs=>if c6 kvs=true then(d4 a).map fun q=>.bl (if neg then !(gC kvs q).isSome else(gC kvs q).isSome) else none
  | b=>(rM a b).map fun k=>.bl (if neg then !k else k)
theorem AN {neg:Bool}:JO (UL.iW neg) (As neg):=by
  intro v h g u u' w w' z d r r' e;unfold As at e;split at e
  . rename_i kvs
    split at e
    . rename_i hk
      obtain⟨i,us,rfl,q,rs⟩:=r'.cq d;obtain⟨k,h1,rfl⟩:=mOsZ.mp e
      have:(UL.la us (v5 k)).isSome=(gC kvs k).isSome:=by
        cases y:gC kvs k with
        | none=>rw[tM d rs (lY hk) y];rfl
        | some x=>obtain⟨uz,hz,_⟩:=rE d rs (lY hk) y;rw[hz];rfl
      exact⟨_,h,v,by unfold UL.iW;simp only[q,i3 d r h1,Option.map_some,this],.refl d,.bl _⟩
    . cases e
  . rename_i hn
    obtain⟨b,hb,rfl⟩:=mOsZ.mp e;have hb2:=Aw d r r' hb;refine⟨_,h,v,?_,.refl d,.bl _⟩
    have:UL.iW neg u u' h=UL.yE neg u u' h:=by
      unfold UL.iW;split
      . rename_i i
        split
        . rename_i kvs q
          exfalso
          unfold UL.Av UL.cR at hb2;simp only[q] at hb2;cases u<;>(try cases hb2)<;>(split at hb2<;>cases hb2)
        . rfl
      . rfl
    rw[this];unfold UL.yE;rw[hb2];rfl
def iW (neg:Bool):ka:=fun a b g=>match b with
  | .dN kvs=>(dO a).map fun q=>.bl (if neg then !(lB kvs q).isSome else(lB kvs q).isSome)
  | .cq []=>(match dO a with
    | some _=>some (.bl neg)
    | none=>As neg a (.cq []) g)
  | b=>As neg a b g
theorem jy {neg:Bool}:JO (UL.inD neg) (iW neg):=by
  intro v h g u u' w w' z d r r' e;unfold iW at e;split at e
  . rename_i kvs
    obtain⟨i,us,rfl,q,rs⟩:=r'.dN d;obtain⟨k,h1,rfl⟩:=mOsZ.mp e
    have:(UL.iK us k).isSome=(lB kvs k).isSome:=by
      cases y:lB kvs k with
      | none=>rw[(mS d rs).1 y];rfl
      | some x=>obtain⟨uz,hz,_⟩:=(mS d rs).2 _ y;rw[hz];rfl
    exact⟨_,h,v,by unfold UL.inD;simp only[q,jY d r,h1,Option.map_some,this],.refl d,.bl _⟩
  . obtain⟨i,us,rfl,q,rs⟩:=r'.cq d
    have e0:us=[]:=by
      have:=rs.k.len;cases us with
      | nil=>rfl
      | cons _ _=>simp at this
    subst e0;split at e
    . rename_i k hk
      cases e
      exact⟨_,h,v,by unfold UL.inD;simp only[q,jY d r,hk],.refl d,.bl _⟩
    . rename_i hk
      obtain⟨uz,h',v',e1,s,rz⟩:=AN v h g u _ w _ z d r r' e;refine⟨uz,h',v',?_,s,rz⟩;unfold UL.inD;simp only[q,jY d r,hk];exact e1
  . rename_i hn1 hn2
    obtain⟨uz,h',v',e1,s,rz⟩:=AN v h g u u' w w' z d r r' e;refine⟨uz,h',v',?_,s,rz⟩;unfold UL.inD;split
    . rename_i i
      split
      . rename_i kvs q
        exfalso
        unfold UL.iW at e1;simp only[q] at e1;unfold UL.yE UL.Av UL.cR at e1;simp only[q] at e1;cases u<;>(try cases e1)<;>(split at e1<;>cases e1)
      . rename_i q
        split
        . rename_i k hk
          exfalso
          have e2:=(jY d r).symm.trans hk;cases w with
          | tup ws=>
            unfold As at e;split at e
            . rename_i kvs
              split at e
              . obtain⟨_,h1,_⟩:=mOsZ.mp e
                cases h1
              . cases e
            . obtain⟨b,hb,_⟩:=mOsZ.mp e
              have hb2:=Aw d r r' hb;unfold UL.Av UL.cR at hb2;simp only[q] at hb2;obtain⟨us,rfl,_⟩:=r.tup d;cases hb2
          | _=>cases e2
        . exact e1
      . exact e1
    . exact e1
theorem fg.one {us:List U} (r:fg v h us [w]):∃ u,us=[u]/\a7 v h u w:=by
  cases r with
  | cons a b=>cases b;exact⟨_,rfl,a⟩
theorem fg.two {us:List U} (r:fg v h us [w,w']):∃ u u',us=[u,u']/\a7 v h u w/\a7 v h u' w':=by
  cases r with
  | cons a b=>cases b with
    | cons c b=>cases b;exact⟨_,_,rfl,a,c⟩
theorem fg.zero {us:List U} (r:fg v h us []):us=[]:=by cases r;rfl
def AX:PB:=fun ws g=>match ws with
  | [.str z]=>if z.length<=16777216 then some (.int z.length) else none
  | [.d6 k]=>match g[k]? with
    | some (.lst xs)=>some (.int xs.length)
    | _=>none
  | [w]=>(jO w).map fun xs=>.int xs.length
  | _=>none
theorem Dw:JB UL.eA AX:=by
  intro v h g us ws z d r e;unfold AX at e;split at e
  . replace r:=r.one;obtain⟨u,rfl,r⟩:=r
    split at e
    . rename_i hl
      cases e
      rw[r.c5 d];exact⟨_,h,v,by simp only[UL.eA,hl,if_true],.refl d,.int _⟩
    . cases e
  . rename_i k
    replace r:=r.one;obtain⟨u,rfl,r⟩:=r
    obtain⟨i,rfl,hi⟩:=r.d6 d;split at e
    . rename_i xs q
      cases e
      obtain⟨i',o,a,b,c,ro⟩:=d.cm k _ q;rw[hi] at a;cases a
      cases o with
      | lst us=>exact⟨_,h,v,by simp only[UL.eA,UL.cR,c,Option.map_some,aO.len (v:=v) ro],.refl d,.int _⟩
      | _=>exact ro.elim
    . cases e
  . rename_i w hn1 hn2
    replace r:=r.one;obtain⟨u,rfl,r⟩:=r
    obtain⟨xs,hx,rfl⟩:=mOsZ.mp e;obtain⟨us,hu,rs⟩:=kR d r hx;refine⟨.int us.length,h,v,?_,.refl d,by rw[rs.len];exact .int _⟩
    cases u with
    | str x=>cases hu
    | _=>simp only[UL.eA,hu];rfl
  . cases e
def eA:PB:=fun ws g=>match ws with
  | [.dN kvs]=>some (.int kvs.length)
  | [.cq []]=>some (.int 0)
  | ws=>AX ws g
theorem iY:JB UL.hB eA:=by
  intro v h g us ws z d r e;unfold eA at e;split at e
  . rename_i kvs
    replace r:=r.one;obtain⟨u,rfl,r⟩:=r
    cases e
    obtain⟨i,us,rfl,q,rs⟩:=r.dN d;have hl:us.length=kvs.length:=by simpa using rs.k.len
    exact⟨_,h,v,by simp only[UL.hB,q,hl],.refl d,.int _⟩
  . replace r:=r.one;obtain⟨u,rfl,r⟩:=r
    cases e
    obtain⟨i,us,rfl,q,rs⟩:=r.cq d
    have e0:us=[]:=by
      have:=rs.k.len;cases us with
      | nil=>rfl
      | cons _ _=>simp at this
    subst e0;exact⟨_,h,v,by simp only[UL.hB,q],.refl d,.int _⟩
  . rename_i hn1 hn2
    obtain⟨uz,h',v',e1,s,rz⟩:=Dw v h g us ws z d r e;refine⟨uz,h',v',?_,s,rz⟩;unfold UL.hB;split
    . rename_i i
      split
      . rename_i kvs q
        exfalso
        unfold UL.eA UL.cR at e1;simp only[q] at e1;cases e1
      . rename_i q
        exfalso
        unfold UL.eA UL.cR at e1;simp only[q] at e1;cases e1
      . exact e1
    . exact e1
def yr:PB:=fun ws _=>match ws with
  | [.int i]=>some (.int (if i < 0 then -i else i))
  | _=>none
def yP:PB:=fun ws _=>match ws with
  | [.int i,.int j]=>some (.int (if j > i then j else i))
  | _=>none
def yQ:PB:=fun ws _=>match ws with
  | [.int i,.int j]=>some (.int (if j < i then j else i))
  | _=>none
def lN:PB:=fun ws _=>match ws with
  | [.int i]=>if i.natAbs.log2 < 1920 then some (.str (UL.digits i)) else none
  | _=>none
theorem AH:JB UL.lN lN:=by
  intro v h g us ws z d r e;unfold lN at e;split at e
  . replace r:=r.one;obtain⟨u,rfl,r⟩:=r
    split at e
    . rename_i hl
      cases e
      rw[r.cG d];exact⟨_,h,v,by simp only[UL.lN,hl,if_true],.refl d,.str _⟩
    . cases e
  . cases e
def gG:PB:=fun ws _=>match ws with
  | [.int i]=>some (.int i)
  | [.bl b]=>some (.int (if b then 1 else 0))
  | [.str z]=>if z.length<=640 then(PySem.intText? (S z)).map .int else none
  | _=>none
theorem nO:JB UL.gG gG:=by
  intro v h g us ws z d r e;unfold gG at e;split at e
  . replace r:=r.one;obtain⟨u,rfl,r⟩:=r
    cases e
    rw[r.cG d];exact⟨_,h,v,rfl,.refl d,.int _⟩
  . replace r:=r.one;obtain⟨u,rfl,r⟩:=r
    cases e
    rw[r.rq d];exact⟨_,h,v,rfl,.refl d,.int _⟩
  . replace r:=r.one;obtain⟨u,rfl,r⟩:=r
    split at e
    . rename_i hl
      obtain⟨n,hn,rfl⟩:=mOsZ.mp e;rw[r.c5 d];exact⟨_,h,v,by simp only[UL.gG,hl,if_true,hn];rfl,.refl d,.int _⟩
    . cases e
  . cases e
def fq:PB:=fun ws _=>match ws with
  | [.int i,.int j]=>if 0 < j/\Builtin.divisionGoesByPylong i j=false then some (.tup [.int (i / j),.int (i % j)]) else none
  | _=>none
theorem yI:JB UL.fq fq:=by
  intro v h g us ws z d r e;unfold fq at e;split at e
  . replace r:=r.two;obtain⟨u,u',rfl,r,r'⟩:=r
    split at e
    . rename_i hl
      cases e
      rw[r.cG d,r'.cG d];exact⟨_,h,v,by simp only[UL.fq,hl,and_self,if_true],.refl d,.tup (.cons (.int _) (.cons (.int _) .nil))⟩
    . cases e
  . cases e
def bH:PB:=fun ws _=>match ws with
  | [w]=>(jO w).map .tup
  | _=>none
theorem et:JB UL.bH bH:=by
  intro v h g us ws z d r e;unfold bH at e;split at e
  . replace r:=r.one;obtain⟨u,rfl,r⟩:=r
    obtain⟨xs,hx,rfl⟩:=mOsZ.mp e;obtain⟨us,hu,rs⟩:=kR d r hx;exact⟨.tup us,h,v,by simp only[UL.bH,hu];rfl,.refl d,.tup rs⟩
  . cases e
def xC:PB:=fun ws _=>match ws with
  | [w]=>(jO w).map .lst
  | _=>none
def vO:List W->Option (List Bool)
  | []=>some []
  | .bl b::us=>(vO us).map (b::·)
  | _=>none
theorem kF (d:Wd v h g):∀ {us:List U} {ws:List W} {bs:List Bool},aO v us ws->vO ws=some bs->UL.k9 us=some bs
  | [],_,_,r,e=>by cases r;exact e
  | u::us,_,bs,r,e=>by
    cases r with
    | cons a b=>
      rename_i w ws;cases w with
      | bl k=>
        simp only[vO] at e;obtain⟨ys,hy,rfl⟩:=mOsZ.mp e;rw[(a7.rep a).rq (h:=h) d];unfold UL.k9;rw[kF d b hy];rfl
      | _=>cases e
def allB:PB:=fun ws _=>match ws with
  | [.lst ws]=>(vO ws).map fun bs=>.bl (bs.all fun b=>b)
  | _=>none
theorem Ge:JB UL.allB allB:=by
  intro v h g us ws z d r e;unfold allB at e;split at e
  . replace r:=r.one;obtain⟨u,rfl,r⟩:=r
    obtain⟨bs,hb,rfl⟩:=mOsZ.mp e;obtain⟨i,us,rfl,q,rs⟩:=r.lst d;exact⟨_,h,v,by simp only[UL.allB,UL.nZ,q,kF d rs hb];rfl,.refl d,.bl _⟩
  . cases e
def anyB:PB:=fun ws _=>match ws with
  | [.lst ws]=>(vO ws).map fun bs=>.bl (bs.any fun b=>b)
  | _=>none
theorem AG:JB UL.anyB anyB:=by
  intro v h g us ws z d r e;unfold anyB at e;split at e
  . replace r:=r.one;obtain⟨u,rfl,r⟩:=r
    obtain⟨bs,hb,rfl⟩:=mOsZ.mp e;obtain⟨i,us,rfl,q,rs⟩:=r.lst d;exact⟨_,h,v,by simp only[UL.anyB,UL.nZ,q,kF d rs hb];rfl,.refl d,.bl _⟩
  . cases e
def pF (w:W) (g:G):Option (String ⊕ Str):=match w with
  | .non=>some (.inl "NoneType")
  | .bl _=>some (.inl "bool")
  | .int _=>some (.inl "int")
  | .str _=>some (.inl "str")
  | .tup _=>some (.inl "tuple")
  | .lst _=>some (.inl "list")
  | .cq _=>some (.inl "dict")
  | .ins c _=>some (.inr c)
  | .d6 k=>match g[k]? with
    | some (.lst _)=>some (.inl "list")
    | some (.ins c _)=>some (.inr c)
    | some (.cq _)=>some (.inl "dict")
    | none=>none
  | _=>none
theorem o8 (d:Wd v h g) (r:a7 v h u w) {t:String ⊕ Str} (e:pF w g=some t):UL.pF u h=some t:=by
  cases w with
  | non=>rw[r.ke d];exact e
  | bl b=>rw[r.rq d];exact e
  | int b=>rw[r.cG d];exact e
  | str b=>rw[r.c5 d];exact e
  | tup ws=>obtain⟨us,rfl,rs⟩:=r.tup d;exact e
  | lst ws=>obtain⟨i,us,rfl,q,rs⟩:=r.lst d;simp only[UL.pF,q];exact e
  | cq ws=>obtain⟨i,us,rfl,q,rs⟩:=r.cq d;simp only[UL.pF,q];exact e
  | ins c ws=>obtain⟨i,us,rfl,q,rs⟩:=r.ins d;simp only[UL.pF,q];exact e
  | d6 k=>
    obtain⟨i,rfl,hi⟩:=r.d6 d;simp only[pF] at e;cases q:g[k]? with
    | none=>rw[q] at e;cases e
    | some c=>
      obtain⟨i',o,a,b,c1,ro⟩:=d.cm k _ q;rw[hi] at a;cases a
      rw[q] at e;cases c with
      | lst ws=>
        cases o with
        | lst us=>simp only[UL.pF,c1];exact e
        | _=>exact ro.elim
      | ins c ws=>
        cases o with
        | ins c' us=>
          obtain⟨rfl,_⟩:=ro;simp only[UL.pF,c1];exact e
        | _=>exact ro.elim
      | cq ws=>
        cases o with
        | cq us=>simp only[UL.pF,c1];exact e
        | _=>exact ro.elim
  | _=>cases e
def ei (cs:List Str):PB:=fun ws g=>match ws with
  | [w,.ty n]=>if n∈UL.eM then(match pF w g with
    | some (.inl t)=>some (.bl (UL.uf t n))
    | some (.inr c)=>if c∈cs then some (.bl false) else none
    | none=>none) else none
  | [w,.glo x]=>if x∈cs then(match pF w g with
    | some (.inl _)=>some (.bl false)
    | some (.inr c)=>if c=x then some (.bl true) else if c∈cs then some (.bl false) else none
    | none=>none) else none
  | _=>none
theorem nQ {cs:List Str}:JB (UL.ei cs) (ei cs):=by
  intro v h g us ws z d r e;unfold ei at e;split at e
  . rename_i w n
    replace r:=r.two;obtain⟨u,u',rfl,r,r'⟩:=r
    rw[r'.Kf d];split at e
    . rename_i hn
      split at e
      . rename_i t q
        cases e
        exact⟨_,h,v,by simp only[UL.ei,hn,if_true,o8 d r q],.refl d,.bl _⟩
      . rename_i c q
        split at e
        . rename_i hc
          cases e
          exact⟨_,h,v,by simp only[UL.ei,hn,if_true,o8 d r q,hc],.refl d,.bl _⟩
        . cases e
      . cases e
    . cases e
  . rename_i w x
    replace r:=r.two;obtain⟨u,u',rfl,r,r'⟩:=r
    rw[r'.F4 d];split at e
    . rename_i hn
      split at e
      . rename_i t q
        cases e
        exact⟨_,h,v,by simp only[UL.ei,hn,if_true,o8 d r q],.refl d,.bl _⟩
      . rename_i c q
        split at e
        . rename_i hc
          cases e
          exact⟨_,h,v,by simp only[UL.ei,hn,if_true,o8 d r q,hc],.refl d,.bl _⟩
        . rename_i hc
          split at e
          . rename_i hc2
            cases e
            exact⟨_,h,v,by simp only[UL.ei,hn,if_true,o8 d r q,hc,if_false,hc2],.refl d,.bl _⟩
          . cases e
      . cases e
    . cases e
  . cases e
def ES:W->Option PyData
  | .non=>some .none
  | .bl b=>some (.bool b)
  | .int i=>some (.int i)
  | .str x=>some (.str (S x))
  | _=>none
def rC:List (W × W)->Option (List (PyData × PyData))
  | []=>some []
  | (k,u)::r=>match d4 k,ES u,rC r with
    | some (.inl i),some d,some ds=>some ((.int i,d)::ds)
    | some (.inr x),some d,some ds=>some ((.str (S x),d)::ds)
    | _,_,_=>none
theorem w8 (d:Wd v h g) (r:a7 v h u w) {x:PyData} (e:ES w=some x):UL.CW u=some x:=by
  cases w with
  | non=>rw[r.ke d];exact e
  | bl b=>rw[r.rq d];exact e
  | int b=>rw[r.cG d];exact e
  | str b=>rw[r.c5 d];exact e
  | _=>cases e
theorem nu (d:Wd v h g):∀ {us:List (U × U)} {ws:List (W × W)} {x:List (PyData × PyData)},ff v us ws->rC ws=some x->UL.nq us=some x
  | [],ws,x,r,e=>by
    cases ws with
    | nil=>exact e
    | cons a b=>have:=r.k.len;simp at this
  | (ku,xu)::us,ws,x,r,e=>by
    cases ws with
    | nil=>have:=r.k.len;simp at this
    | cons a ws=>
      obtain⟨kw,xw⟩:=a;obtain⟨r1,r2⟩:=r;cases r1 with
      | cons k1 k2=>
        cases r2 with
        | cons x1 x2=>
          unfold rC at e;split at e
          . rename_i i y ys e1 e2 e3
            cases e
            unfold UL.nq;rw[i3 d (.rep k1) e1,w8 d (.rep x1) e2,nu d ⟨k2,x2⟩ e3];rfl
          . rename_i i y ys e1 e2 e3
            cases e
            unfold UL.nq;rw[i3 d (.rep k1) e1,w8 d (.rep x1) e2,nu d ⟨k2,x2⟩ e3];rfl
          . cases e
def xT (kvs:List (W × W)):Option Str:=match rC kvs with
  | some ds=>if (PyData.dict ds).showable && decide ((PyData.dict ds).depth<=40) && decide ((PyData.dict ds).shown.length<=16777216) then some (PyData.dict ds).shown else none
  | none=>none
def mw (w:W):Option (List Nat):=match iT 12 w with
  | some d=>if d.showable && !d.hasDict && decide (d.depth<=40) && decide (d.shown.length<=16777216) then some d.shown.cps.toList else none
  | none=>none
def qH:W->Option (List Nat)
  | .non=>some ("None" : Str).cps.toList
  | .int i=>if i.natAbs.log2 < 1920 then some (toString i:Str).cps.toList else none
  | .str x=>if (reprText (S x)).length<=16777216 then some (reprText (S x)).cps.toList else none
  | .bl b=>some (if b then("True" : Str) else("False" : Str)).cps.toList
  | .cq kvs=>(xT kvs).map fun z=>z.cps.toList
  | .lst ws=>mw (.lst ws)
  | .tup ws=>mw (.tup ws)
  | _=>none
def dQ:PB:=fun ws _=>match ws with
  | [w]=>(qH w).map .str
  | _=>none
theorem uS (d:Wd v h g) (r:a7 v h u w) {x:List Nat} (hu:(∃ us,u=.tup us)\/∃ i,u=.ref i) (e:mw w=some x):UL.lG [u] h=some (.str x,h):=by
  unfold mw at e;split at e
  . rename_i y hy
    split at e
    . rename_i hc
      cases e
      have hd:=ny d r hy;rcases hu with ⟨us,rfl⟩ | ⟨i,rfl⟩
      . simp only[UL.lG,hd,hc,if_true]
      . simp only[UL.lG,hd,hc,if_true]
    . cases e
  . cases e
theorem Ed (d:Wd v h g) (r:a7 v h u w) {x:List Nat} (e:qH w=some x):UL.dQ [u] h=some (.str x,h):=by
  cases w with
  | non=>rw[r.ke d];cases e;rfl
  | int i=>
    rw[r.cG d];simp only[qH] at e;split at e
    . rename_i hl;cases e;simp only[UL.dQ,hl,if_true]
    . cases e
  | str i=>
    rw[r.c5 d];simp only[qH] at e;split at e
    . rename_i hl;cases e;simp only[UL.dQ,hl,if_true]
    . cases e
  | bl b=>rw[r.rq d];cases e;rfl
  | cq kvs=>
    obtain⟨i,us,rfl,q,rs⟩:=r.cq d;simp only[qH] at e;obtain⟨y,hy,rfl⟩:=mOsZ.mp e;unfold xT at hy;split at hy
    . rename_i ds hd
      simp only[UL.dQ,q,UL.wA,nu d rs hd,hy,Option.map_some]
    . cases hy
  | lst ws=>
    obtain⟨i,us,rfl,q,rs⟩:=r.lst d;simp only[UL.dQ,q];exact uS d r (.inr ⟨_,rfl⟩) e
  | tup ws=>
    obtain⟨us,rfl,rs⟩:=r.tup d;simp only[UL.dQ];exact uS d r (.inl ⟨_,rfl⟩) e
  | _=>cases e
theorem mN:JB UL.dQ dQ:=by
  intro v h g us ws z d r e;unfold dQ at e;split at e
  . replace r:=r.one;obtain⟨u,rfl,r⟩:=r
    obtain⟨x,hx,rfl⟩:=mOsZ.mp e;exact⟨_,h,v,Ed d r hx,.refl d,.str _⟩
  . cases e
def lG:PB:=fun ws _=>match ws with
  | [.lst xs]=>(mw (.lst xs)).map .str
  | [.tup xs]=>(mw (.tup xs)).map .str
  | _=>none
theorem aO.strs (zs:List (List Nat)):aO v (zs.map U.str) (zs.map W.str):=by
  induction zs with
  | nil=>exact .nil
  | cons z zs ih=>exact .cons (.str z) ih
def splitM:PM:=fun a ws _=>match a,ws with
  | .str a,[.str b]=>if b.length≠0/\a.length + 2<=16777216 then some (.lst ((Txt.split (S a) (S b)).map fun x=>.str x.cps.toList)) else none
  | _,_=>none
theorem AM:JM UL.splitM splitM:=by
  intro v h g u w us ws z d r rs e;unfold splitM at e;split at e
  . rename_i a b
    replace rs:=rs.one;obtain⟨u',rfl,r'⟩:=rs
    rw[r.c5 d,r'.c5 d];split at e
    . rename_i hl
      cases e
      have rr:aO v ((Txt.split (S a) (S b)).map UL.codes) ((Txt.split (S a) (S b)).map fun x=>W.str x.cps.toList):=by
        have:=aO.strs (v:=v) ((Txt.split (S a) (S b)).map fun x=>x.cps.toList)
        rw[List.map_map,List.map_map] at this;exact this
      obtain⟨a1,a2⟩:=jL (o:=.lst _) (w:=.lst _) d rr;exact⟨_,_,_,by unfold UL.splitM;dsimp only;rw[if_pos hl],a1,a2⟩
    . cases e
  . cases e
def qT:List W->Option (List (List Nat))
  | []=>some []
  | .str z::us=>(qT us).map (z::·)
  | _=>none
theorem lO (d:Wd v h g):∀ {us:List U} {ws:List W} {bs:List (List Nat)},aO v us ws->qT ws=some bs->UL.strsOf us=some bs
  | [],_,_,r,e=>by cases r;exact e
  | u::us,_,bs,r,e=>by
    cases r with
    | cons a b=>
      rename_i w ws;cases w with
      | str k=>
        simp only[qT] at e;obtain⟨ys,hy,rfl⟩:=mOsZ.mp e;rw[(a7.rep a).c5 (h:=h) d];unfold UL.strsOf;rw[lO d b hy];rfl
      | _=>cases e
def joinM:PM:=fun a ws _=>match a,ws with
  | .str a,[w]=>match jO w with
    | some ws=>match qT ws with
      | some zs=>if (zs.map List.length).sum + zs.length * a.length<=16777216 then some (.str (UL.joinL a zs)) else none
      | none=>none
    | none=>none
  | _,_=>none
theorem jW:JM UL.joinM joinM:=by
  intro v h g u w us ws z d r rs e;unfold joinM at e;split at e
  . rename_i a b
    replace rs:=rs.one;obtain⟨u',rfl,r'⟩:=rs
    rw[r.c5 d];split at e
    . rename_i xs hx
      obtain⟨us,hu,rs⟩:=kR d r' hx;split at e
      . rename_i zs hz
        split at e
        . rename_i hl
          cases e
          exact⟨_,h,v,by simp only[UL.joinM,hu,lO d rs hz,hl,if_true],.refl d,.str _⟩
        . cases e
      . cases e
    . cases e
  . cases e
def eJ:PM:=fun a ws _=>match a,ws with
  | .str a,[.str b]=>some (.int (Txt.count (S a) (S b)))
  | _,_=>none
theorem qi:JM UL.eJ eJ:=by
  intro v h g u w us ws z d r rs e;unfold eJ at e;split at e
  . replace rs:=rs.one;obtain⟨u',rfl,r'⟩:=rs
    rw[r.c5 d,r'.c5 d];cases e
    exact⟨_,h,v,rfl,.refl d,.int _⟩
  . cases e
end
end PQ

namespace PQ
open PySem UL
section
variable {v v' v'':Vw} {h h' h'':Hm} {g g' g'':G} {u u':U} {w w' z:W} {ow:List Nat} {fa fb:FE} {pa pb:PE} {fr fk:FA} {pr pk:PA} {t:FT} {pt:PT}
inductive PAT where
  | fld
  | prop (P:jS)
def quiet {α:Type}:PR α->PR α
  | .ex _ _ _=>.bad
  | r=>r
theorem Res.quiet {α β:Type} {R:RL α β} {r:Rs α} {q:PR β} (x:Res R v h g r q):Res R v h g (UL.bx r) (quiet q):=by
  cases q with
  | ok b g2=>obtain⟨a,h2,v2,rfl,s,r⟩:=x;exact⟨a,h2,v2,rfl,s,r⟩
  | ex c fs g2=>trivial
  | bad=>trivial
def vU (w:W) (g:G):Option (Str × List (Str × W)):=match w with
  | .ins c fs=>some (c,fs)
  | .d6 k=>match g[k]? with
    | some (.ins c fs)=>some (c,fs)
    | _=>none
  | _=>none
theorem F6 (d:Wd v h g) (r:a7 v h u w) {c:Str} {fs:List (Str × W)} (e:vU w g=some (c,fs)):∃ i us,u=.ref i/\h[i]?=some (.ins c us)/\jg v us fs:=by
  unfold vU at e;split at e
  . cases e
    exact r.ins d
  . rename_i k
    obtain⟨i,rfl,hi⟩:=r.d6 d;split at e
    . rename_i c' fs' q
      cases e
      obtain⟨i',o,a,b,c1,ro⟩:=d.cm k _ q;rw[hi] at a;cases a
      cases o with
      | ins c' us=>obtain⟨rfl,ro⟩:=ro;exact⟨i,us,rfl,c1,ro⟩
      | _=>exact ro.elim
    . cases e
  . cases e
def gA (tab:List (Str × PAT)) (f:Str) (fo:PE):PE:=fun we g=>(fo we g).bind fun w g1=>match vU w g1 with
  | some (c,fs)=>(match tab.lookup c with
    | some .fld=>(match fs.lookup f with
      | some x=>.ok x g1
      | none=>.bad)
    | some (.prop P)=>quiet (P [w] g1)
    | none=>.bad)
  | none=>.bad
def Jh (tab:List (Str × AT)) (pt:List (Str × PAT)):Prop:=∀ c,match pt.lookup c with
  | some .fld=>tab.lookup c=some .fld
  | some (.prop P)=>∃ F,tab.lookup c=some (.prop F)/\JF F P
  | none=>True
theorem rW:Jh [] []:=fun c=>trivial
theorem rV {c:Str} {tab:List (Str × AT)} {pt:List (Str × PAT)} (x:Jh tab pt):Jh ((c,.fld)::tab) ((c,.fld)::pt):=by
  intro c';simp only[List.lookup];cases q:c' == c with
  | true=>rfl
  | false=>exact x c'
theorem rX {tab:List (Str × AT)} {pt:List (Str × PAT)} {f:Str} (ht:Jh tab pt) (ha:JE rRep ow fa pa):JE rRep ow (UL.gA tab f fa) (gA pt f pa):=by
  intro v h g n0 su we d e;refine(ha v h g n0 su we d e).bind fun a x v1 h1 g1 s1 r1=>?_
  cases q:vU x g1 with
  | none=>trivial
  | some p=>
    obtain⟨c,fs⟩:=p;obtain⟨i,us,rfl,q2,rf⟩:=F6 s1.wd (.rep r1) q;have hc:=ht c;simp only[UL.w6,q2];cases q3:pt.lookup c with
    | none=>trivial
    | some y=>
      rw[q3] at hc;cases y with
      | fld=>
        simp only[hc];cases q4:fs.lookup f with
        | none=>trivial
        | some y=>
          obtain⟨uy,hy,ry⟩:=rf.look q4;simp only[hy];exact Res.ok s1.wd ry
      | prop P=>
        obtain⟨F,hF,jF⟩:=hc;simp only[hF];exact(jF v1 h1 g1 _ _ s1.wd (.cons r1 .nil)).quiet
mutual
def i4 (k:Nat):W->Bool
  | .tup ws=>gu k ws
  | .lst ws=>gu k ws
  | .cq kvs=>pN k kvs
  | .dN kvs=>pN k kvs
  | .dL kvs=>pN k kvs
  | .ins _ fs=>kK k fs
  | .d6 j=>j != k
  | _=>true
def gu (k:Nat):List W->Bool
  | []=>true
  | w::ws=>i4 k w && gu k ws
def pN (k:Nat):List (W × W)->Bool
  | []=>true
  | p::r=>Bl k p && pN k r
def Bl (k:Nat):W × W->Bool
  | (a,b)=>i4 k a && i4 k b
def kK (k:Nat):List (Str × W)->Bool
  | []=>true
  | p::r=>Bj k p && kK k r
def Bj (k:Nat):Str × W->Bool
  | (_,b)=>i4 k b
end
theorem Bk {k:Nat}:∀ {r:List (W × W)},pN k r=(gu k (r.map (·.1)) && gu k (r.map (·.2)))
  | []=>rfl
  | (a,b)::r=>by
    simp only[pN,Bl,List.map_cons,gu,Bk (r:=r)];cases i4 k a<;>cases i4 k b<;>cases gu k (r.map (·.1))<;>cases gu k (r.map (·.2))<;>rfl
theorem wj {k:Nat}:∀ {r:List (Str × W)},kK k r=gu k (r.map (·.2))
  | []=>rfl
  | (a,b)::r=>by simp only[kK,Bj,List.map_cons,gu,wj (r:=r)]
def Vw.del (v:Vw) (k:Nat):Vw:=⟨fun i=>(v.fz i).filter (i4 k),fun j=>if j=k then none else v.cm j⟩
mutual
theorem Rep.del {k:Nat}:∀ (u:U) (w:W),Rep v u w->i4 k w=true->Rep (v.del k) u w
  | .non,_,h,_=>by cases h;exact .non
  | .bl _,_,h,_=>by cases h;exact .bl _
  | .int _,_,h,_=>by cases h;exact .int _
  | .str _,_,h,_=>by cases h;exact .str _
  | .ty _,_,h,_=>by cases h;exact .ty _
  | .glo _,_,h,_=>by cases h;exact .glo _
  | .adr _,_,h,_=>by cases h;exact .adr _
  | .ref i,w,h,n=>by
    cases h with
    | fro e=>exact .fro (by simp only[Vw.del,e];rw[Option.filter_some,if_pos n])
    | d6 e=>
      rename_i j;refine .d6 ?_;simp only[Vw.del];rw[if_neg fun z=>by subst z;simp[i4] at n]
      exact e
  | .tup us,_,h,n=>by
    cases h with
    | tup r=>
      rw[i4] at n;exact .tup (aO.del us _ r n)
theorem aO.del {k:Nat}:∀ (us:List U) (ws:List W),aO v us ws->gu k ws=true->aO (v.del k) us ws
  | [],_,h,_=>by cases h;exact .nil
  | u::us,_,h,n=>by
    cases h with
    | cons a b=>
      rw[gu,Bool.and_eq_true] at n;exact .cons (Rep.del u _ a n.1) (aO.del us _ b n.2)
end
theorem dI.del {k:Nat} {o:O} (r:dI v o w) (n:i4 k w=true):dI (v.del k) o w:=by
  cases o<;>cases w<;>first
    | exact r.elim
    | (rw[i4] at n;exact aO.del _ _ r n)
    | (rw[i4,Bk,Bool.and_eq_true] at n;exact⟨aO.del _ _ r.k n.1,aO.del _ _ r.x n.2⟩)
    | (rw[i4,wj] at n;exact⟨r.1,r.2.k,aO.del _ _ r.2.x n⟩)
mutual
theorem oh (d:Wd v h g) {k:Nat} (hk:g.length<=k):∀ (w:W) (u:U),Rep v u w->i4 k w=true
  | .tup ws,u,r=>by
    rw[i4];obtain⟨us,rfl,rs⟩:=(a7.rep (h:=h) r).tup d;exact mT d hk ws us rs
  | .lst ws,u,r=>by
    rw[i4];obtain⟨i,us,rfl,q,rs⟩:=(a7.rep (h:=h) r).lst d;exact mT d hk ws us rs
  | .cq kvs,u,r=>by
    rw[i4];obtain⟨i,us,rfl,q,rs⟩:=(a7.rep (h:=h) r).cq d;exact lC d hk kvs us rs.k rs.x
  | .dN kvs,u,r=>by
    rw[i4];obtain⟨i,us,rfl,q,rs⟩:=(a7.rep (h:=h) r).dN d;exact lC d hk kvs us rs.k rs.x
  | .dL kvs,u,r=>by
    rw[i4];obtain⟨i,us,rfl,q,rs⟩:=(a7.rep (h:=h) r).dL d;exact lC d hk kvs us rs.k rs.x
  | .ins c fs,u,r=>by
    rw[i4];obtain⟨i,us,rfl,q,rs⟩:=(a7.rep (h:=h) r).ins d;exact si d hk fs us rs.x
  | .d6 j,u,r=>by
    obtain⟨i,rfl,hi⟩:=(a7.rep (h:=h) r).d6 d;have:=d.dom j i hi;simp[i4];omega
  | .non,_,_=>by rw[i4]<;>simp
  | .bl _,_,_=>by rw[i4]<;>simp
  | .int _,_,_=>by rw[i4]<;>simp
  | .str _,_,_=>by rw[i4]<;>simp
  | .ty _,_,_=>by rw[i4]<;>simp
  | .glo _,_,_=>by rw[i4]<;>simp
  | .adr _,_,_=>by rw[i4]<;>simp
theorem mT (d:Wd v h g) {k:Nat} (hk:g.length<=k):∀ (ws:List W) (us:List U),aO v us ws->gu k ws=true
  | [],_,_=>by rw[gu]
  | w::ws,us,r=>by
    cases r with
    | cons a b=>rw[gu,oh d hk w _ a,mT d hk ws _ b];rfl
theorem lC (d:Wd v h g) {k:Nat} (hk:g.length<=k):∀ (ws:List (W × W)) (us:List (U × U)),aO v (us.map (·.1)) (ws.map (·.1))->aO v (us.map (·.2)) (ws.map (·.2))->pN k ws=true
  | [],_,_,_=>by rw[pN]
  | p::ws,us,r,r'=>by
    cases us with
    | nil=>cases r
    | cons q us=>
      cases r with
      | cons a b=>
        cases r' with
        | cons a' b'=>rw[pN,DK d hk p _ _ a a',lC d hk ws us b b'];rfl
theorem DK (d:Wd v h g) {k:Nat} (hk:g.length<=k):∀ (p:W × W) (u u':U),Rep v u p.1->Rep v u' p.2->Bl k p=true
  | (a,b),u,u',r,r'=>by rw[Bl,oh d hk a u r,oh d hk b u' r'];rfl
theorem si (d:Wd v h g) {k:Nat} (hk:g.length<=k):∀ (ws:List (Str × W)) (us:List (Str × U)),aO v (us.map (·.2)) (ws.map (·.2))->kK k ws=true
  | [],_,_=>by rw[kK]
  | p::ws,us,r=>by
    cases us with
    | nil=>cases r
    | cons q us=>
      cases r with
      | cons a b=>rw[kK,DJ d hk p _ a,si d hk ws us b];rfl
theorem DJ (d:Wd v h g) {k:Nat} (hk:g.length<=k):∀ (p:Str × W) (u:U),Rep v u p.2->Bj k p=true
  | (a,b),u,r=>by rw[Bj,oh d hk b u r]
end
theorem DG (d:Wd v h g) {k:Nat} (hk:g.length<=k) {o:O} (r:dI v o w):i4 k w=true:=by
  cases o<;>cases w<;>first
    | exact r.elim
    | (rw[i4];exact mT d hk _ _ r)
    | (rw[i4];exact lC d hk _ _ r.k r.x)
    | (rw[i4];exact si d hk _ _ r.2.x)
def Vw.cell (v:Vw) (k i:Nat):Vw:=⟨v.fz,fun j=>if j=k then some i else v.cm j⟩
theorem dz.cell {o:O} {c:Cl} (d:Wd v h g) (ro:dI v o c.w):dz v h g (v.cell g.length h.length) (h++[o]) (g++[c]):=by
  have cn:v.cm g.length=none:=by
    cases e:v.cm g.length with
    | none=>rfl
    | some i=>exact absurd (d.dom _ _ e) (Nat.lt_irrefl _)
  have l:Le v (v.cell g.length h.length):=⟨fun _ _ e=>e,fun k i e=>by
    show(if k=g.length then some h.length else v.cm k)=some i
    rw[if_neg fun z=>by subst z;rw[cn] at e;cases e]
    exact e⟩
  have f:=mq.new d;refine⟨⟨fun i w e=>?_,fun k c' e=>?_,fun k k' i e e'=>?_,fun k i e=>?_⟩,by simp,by simp,fun _ _=>rfl,fun k hk=>?_,fun k i hk e=>?_,fun i hi _=>List.getElem?_append_left hi⟩
  . obtain⟨o',a,b⟩:=d.fz i w e
    exact⟨o',by rw[List.getElem?_append_left (gEsZ.mp a).1];exact a,b.up l⟩
  . by_cases hk:k < g.length
    . rw[List.getElem?_append_left hk] at e
      obtain⟨i,o',a,b,c1,c2⟩:=d.cm k c' e;exact⟨i,o',l.cm _ _ a,b,by rw[List.getElem?_append_left (gEsZ.mp c1).1];exact c1,c2.up l⟩
    . have hk2:k < (g++[c]).length:=(gEsZ.mp e).1
      simp at hk2;have:k=g.length:=by omega
      subst this;simp at e;subst e;exact⟨h.length,o,by simp[Vw.cell],f.fz,by simp,ro.up l⟩
  . simp only[Vw.cell] at e e'
    by_cases a:k=g.length
    . by_cases b:k'=g.length
      . rw[a,b]
      . rw[if_pos a] at e;rw[if_neg b] at e'
        cases e
        exact absurd (d.Jt e') (Nat.lt_irrefl _)
    . by_cases b:k'=g.length
      . rw[if_neg a] at e;rw[if_pos b] at e'
        cases e'
        exact absurd (d.Jt e) (Nat.lt_irrefl _)
      . rw[if_neg a] at e;rw[if_neg b] at e'
        exact d.inj k k' i e e'
  . simp only[Vw.cell] at e
    simp
    by_cases a:k=g.length
    . omega
    . rw[if_neg a] at e
      have:=d.dom k i e;omega
  . simp only[Vw.cell]
    rw[if_neg (by omega)]
  . simp only[Vw.cell] at e
    by_cases a:k=g.length
    . rw[if_pos a] at e;cases e;exact Nat.le_refl _
    . rw[if_neg a] at e
      exact absurd (d.dom k i e) (by omega)
theorem dz.IQ {fs:List (Str × W)} {c:Str} {v0 v1:Vw} {h0 h1:Hm} {g0 g1:G} (d:Wd v0 h0 g0) (s:dz (v0.cell g0.length h0.length) (h0++[.ins c []]) (g0++[.ins c []]) v1 h1 g1) (e:g1=g0++[.ins c fs]) (n:kK g0.length fs=true) :
    ∃ v2,dz v0 h0 g0 v2 h1 g0/\Rep v2 (.ref h0.length) (.ins c fs)/\∀ us ws,aO v1 us ws->gu g0.length ws=true->aO v2 us ws:=by
  subst e;have sc:dz v0 h0 g0 (v0.cell g0.length h0.length) (h0++[.ins c []]) (g0++[.ins c []]):=dz.cell d ⟨rfl,rfl,.nil⟩
  have ck:v1.cm g0.length=some h0.length:=by
    rw[s.cm _ (by simp)]
    simp[Vw.cell]
  obtain⟨i,o,a,b,c1,ro⟩:=s.wd.cm g0.length (.ins c fs) (by simp)
  rw[ck] at a;cases a
  have hn:i4 g0.length (.ins c fs)=true:=by rw[i4];exact n
  have ro':=dI.del ro hn;have nn:∀ i w,v0.fz i=some w->i4 g0.length w=true:=fun i w e=>oh d (Nat.le_refl _) w (.ref i) (.fro e)
  have Kg:Wd (v1.del g0.length) h1 g0:=by
    refine⟨fun i w e=>?_,fun k cc e=>?_,fun k k' i e e'=>?_,fun k i e=>?_⟩
    . simp only[Vw.del,Option.filter_eq_some_iff] at e
      obtain⟨o',a,b⟩:=s.wd.fz i w e.1;exact⟨o',a,dI.del b e.2⟩
    . have hk:k < g0.length:=(gEsZ.mp e).1
      obtain⟨i,o',a,b',c1',c2⟩:=s.wd.cm k cc (by rw[List.getElem?_append_left hk];exact e)
      refine⟨i,o',by simp only[Vw.del];rw[if_neg (by omega)];exact a,by simp only[Vw.del,b'];rfl,c1',?_⟩
      refine dI.del c2 ?_;obtain⟨_,o2,_,_,_,ro2⟩:=d.cm k cc e;exact DG d (Nat.le_refl _) ro2
    . simp only[Vw.del] at e e'
      split at e
      . cases e
      . split at e'
        . cases e'
        . exact s.wd.inj k k' i e e'
    . simp only[Vw.del] at e
      split at e
      . cases e
      . have:=s.wd.dom k i e
        simp at this;omega
  have fe:mq (v1.del g0.length) h0.length:=⟨by simp only[Vw.del,b];rfl,fun j e=>by
    simp only[Vw.del] at e;split at e
    . cases e
    . rename_i hj
      exact hj (s.wd.inj j g0.length h0.length e ck)⟩
  refine⟨(v1.del g0.length).frz h0.length (.ins c fs),⟨Kg.frz fe c1 ro',by have:=s.hl;simp at this;omega,Nat.le_refl _,fun i hi=>?_,fun k hk=>?_,fun k i hk e=>?_,fun i hi hc=>?_⟩,.fro Vw.lj,fun us ws r nn=>(aO.del us ws r nn).up (Vw.vT fe.fz)⟩
  . have e1:v1.fz i=v0.fz i:=s.fz i (by simp;omega)
    show(if i=h0.length then some _ else(v1.fz i).filter (i4 g0.length))=v0.fz i
    rw[if_neg (by omega),e1]
    cases q:v0.fz i with
    | none=>rfl
    | some w=>rw[Option.filter_some,if_pos (nn i w q)]
  . show(if k=g0.length then none else v1.cm k)=v0.cm k
    rw[if_neg (by omega),s.cm k (by simp;omega)]
    show(if k=g0.length then some h0.length else v0.cm k)=v0.cm k
    rw[if_neg (by omega)]
  . have e:(if k=g0.length then none else v1.cm k)=some i:=e
    split at e
    . cases e
    . have:=s.wd.dom k i e
      simp at this;omega
  . rw[s.fr i (by simp;omega) fun k e=>?_,List.getElem?_append_left hi]
    have e:(if k=g0.length then some h0.length else v0.cm k)=some i:=e
    split at e
    . cases e;omega
    . exact hc k e
def JX (c:Str) (i:Nat) (r:Rs U):Rs U:=match r with
  | .ok .non h2=>.ok (.ref i) h2
  | .ok _ _=>.bad
  | .ex c fs h2=>.ex c fs h2
  | .bad=>.bad
theorem A7 {c:Str} {F:Fn} {us:List U}:UL.uB c F us h=JX c h.length (F (.ref h.length::us) (h++[.ins c []])):=by
  unfold UL.uB JX;rfl
noncomputable def HD (c:Str) (g1:G) (q:PR W):PR W:=match q with
  | .ok .non g2=>(match g2[g1.length]? with
    | some (.ins c' fs)=>open Classical in if g2=g1++[.ins c fs]/\kK g1.length fs=true then .ok (.ins c fs) g1 else .bad
    | _=>.bad)
  | .ok _ _=>.bad
  | .ex c' fs g2=>open Classical in if g2=g1++[.ins c []]/\kK g1.length fs=true then .ex c' fs g1 else .bad
  | .bad=>.bad
theorem Gv {c:Str} {r:Rs U} {q:PR W} (d:Wd v h g) (x:Res rRep (v.cell g.length h.length) (h++[.ins c []]) (g++[.ins c []]) r q):Res rRep v h g (JX c h.length r) (HD c g q):=by
  cases q with
  | bad=>trivial
  | ok b g2=>
    obtain⟨a,h2,v2,rfl,s,rr⟩:=x;cases b with
    | non=>
      have:a=.non:=(a7.rep rr).ke (h:=h2) s.wd;subst this;unfold HD;dsimp only;split
      . rename_i c' fs q
        split
        . rename_i hc
          obtain⟨v3,s3,r3,_⟩:=dz.IQ d s hc.1 hc.2;exact⟨_,h2,v3,rfl,s3,r3⟩
        . trivial
      . trivial
    | _=>trivial
  | ex c' fs g2=>
    obtain⟨a,h2,v2,rfl,s,rr⟩:=x;unfold HD;dsimp only;split
    . rename_i hc
      obtain⟨v3,s3,_,r3⟩:=dz.IQ (fs:=[]) d s hc.1 (by rw[kK])
      have n:=hc.2;rw[wj] at n;exact⟨a,h2,v3,rfl,s3,rr.k,r3 _ _ rr.x n⟩
    . trivial
theorem z8 (c:Str):Rep (v.cell g.length h.length) (.ref h.length) (.d6 g.length):=.d6 (by simp[Vw.cell])
noncomputable def uC (c:Str) (P:jS) (fr:PA):PE:=fun we g=>(fr we g).bind fun ws g1=>HD c g1 (P (.d6 g1.length::ws) (g1++[.ins c []]))
theorem AJ {c:Str} {F:Fn} {P:jS} (hF:JF F P) (hr:JE jf ow fr pr):JE rRep ow (UL.A6 c F fr) (uC c P pr):=by
  intro v h g n0 su we d e;refine(hr v h g n0 su we d e).bind fun a x v1 h1 g1 s1 r1=>?_
  rw[A7];have sc:dz v1 h1 g1 (v1.cell g1.length h1.length) (h1++[.ins c []]) (g1++[.ins c []]):=dz.cell s1.wd ⟨rfl,rfl,.nil⟩;exact Gv s1.wd (hF _ _ _ _ _ sc.wd (.cons (z8 c) (r1.up (sc.le s1.wd))))
abbrev PG:=W->cA->G->PR cA
abbrev PGs:=List W->cA->G->PR cA
abbrev ID (n0:Nat) (ow:List Nat):RL En cA:=fun v h su we=>br v h n0 ow su we
def JG (ow:List Nat) (tg:FG) (pg:PG):Prop:=∀ v h g n0 su we u w,Wd v h g->br v h n0 ow su we->Rep v u w->Res (ID n0 ow) v h g (tg u su h) (pg w we g)
def Ji (ow:List Nat) (tg:zO) (pg:PGs):Prop:=∀ v h g n0 su we us ws,Wd v h g->br v h n0 ow su we->aO v us ws->Res (ID n0 ow) v h g (tg us su h) (pg ws we g)
theorem br.set {n0:Nat} {su:En} {we:cA} {i:Nat} (e:br v h n0 ow su we) (hi:i ∉ ow) (r:Rep v u w):br v h n0 ow (su.set i (some u)) (we.set i (some w)):=by
  refine⟨by simp[e.len],fun s x hs q=>?_,fun s hs=>?_,fun s s' r hs hs' q q'=>?_⟩
  . by_cases z:i=s
    . subst z
      have hl:i < we.length:=by
        have:=(gEsZ.mp q).1;simpa using this
      rw[List.getElem?_set_self hl] at q;cases q
      exact⟨u,List.getElem?_set_self (by rw[e.len];exact hl),r⟩
    . rw[List.getElem?_set_ne z] at q
      obtain⟨u',hu,r'⟩:=e.val s x hs q;exact⟨u',by rw[List.getElem?_set_ne z];exact hu,r'⟩
  . obtain⟨r,o,x,h1,h2,h3⟩:=e.own s hs
    have z:i≠s:=fun z=>hi (z ▸ hs)
    exact⟨r,o,x,by rw[List.getElem?_set_ne z];exact h1,by rw[List.getElem?_set_ne z];exact h2,h3⟩
  . have z1:i≠s:=fun z=>hi (by rw[z];exact hs)
    have z2:i≠s':=fun z=>hi (by rw[z];exact hs')
    rw[List.getElem?_set_ne z1] at q;rw[List.getElem?_set_ne z2] at q';exact e.dis s s' r hs hs' q q'
def aG (i:Nat):PG:=fun w we g=>.ok (we.set i (some w)) g
theorem aW {i:Nat} (hi:i ∉ ow):JG ow (UL.aG i) (aG i):=fun v h g n0 su we u w d e r=>Res.ok d (e.set hi r)
def cC:PGs:=fun ws we g=>match ws with
  | []=>.ok we g
  | _=>.bad
def a9 (pg:PG) (pr:PGs):PGs:=fun ws we g=>match ws with
  | w::ws=>(pg w we g).bind fun we' g'=>pr ws we' g'
  | _=>.bad
theorem fV:Ji ow UL.cC cC:=by
  intro v h g n0 su we us ws d e r;cases r with
  | nil=>exact Res.ok d e
  | cons a b=>trivial
theorem bu {tg:FG} {pg:PG} {tr:zO} {pr:PGs} (x:JG ow tg pg) (y:Ji ow tr pr):Ji ow (UL.a9 tg tr) (a9 pg pr):=by
  intro v h g n0 su we us ws d e r;cases r with
  | nil=>trivial
  | cons a b=>
    refine(x v h g n0 su we _ _ d e a).bind fun su' we' v1 h1 g1 s1 r1=>?_
    exact y v1 h1 g1 n0 su' we' _ _ s1.wd r1 (b.up (s1.le d))
def eY (n:Nat) (pr:PGs):PG:=fun w we g=>match jO w with
  | some ws=>if ws.length=n then pr ws we g else .bad
  | none=>.bad
theorem iz {n:Nat} {tr:zO} {pr:PGs} (y:Ji ow tr pr):JG ow (UL.eY n tr) (eY n pr):=by
  intro v h g n0 su we u w d e r;unfold eY;cases q:jO w with
  | none=>trivial
  | some ws=>
    obtain⟨us,hu,rs⟩:=kR d (.rep r) q;unfold UL.eY;simp only[hu,rs.len];split
    . exact y v h g n0 su we us ws d e rs
    . trivial
def zG (fo fi:PE):PG:=fun w we g=>(quiet (fo we g)).bind fun o g1=>(quiet (fi we g1)).bind fun i g2=>match o,i with
  | .d6 k,.int n=>(match g2[k]? with
    | some (.lst ws)=>(match L2.ixN ws.length n with
      | some j=>.ok we (g2.set k (.lst (ws.set j w)))
      | none=>.bad)
    | _=>.bad)
  | _,_=>.bad
theorem vY (ha:JE dq ow fa pa) (hb:JE dq ow fb pb):JG ow (UL.vg fa fb) (zG pa pb):=by
  intro v h g n0 su we u w d e r;refine(ha v h g n0 su we d e).quiet.bind fun a x v1 h1 g1 s1 r1=>?_
  refine(hb v1 h1 g1 n0 su we s1.wd (e.up d s1)).quiet.bind fun b y v2 h2 g2 s2 r2=>?_
  have e2:=(e.up d s1).up s1.wd s2;cases x with
  | d6 k=>
    cases y with
    | int n=>
      obtain⟨i,rfl,hi⟩:=a7.d6 r1 s1.wd;rw[r2.cG s2.wd];cases q:g2[k]? with
      | none=>simp only[q];trivial
      | some cl=>
        cases cl with
        | lst ws=>
          cases hj:L2.ixN ws.length n with
          | none=>simp only[q,hj];trivial
          | some j=>
            simp only[q,hj];obtain⟨i',o,a1,a2,a3,ro⟩:=s2.wd.cm k _ q;rw[(s2.le s1.wd).cm _ _ hi] at a1;cases a1
            cases o with
            | lst us=>
              have ro:aO v2 us ws:=ro;have r':Rep v2 u w:=(r.up (s1.le d)).up (s2.le s1.wd);have s3:=dz.El (c:=.lst (ws.set j w)) (o:=.lst (us.set j u)) s2.wd ((s2.le s1.wd).cm _ _ hi) (aO.set j ro r');refine⟨su,_,v2,?_,s3,e2.up s2.wd s3⟩;simp only[UL.Ej,UL.lK,a3,ro.len,hj,Option.map_some]
            | _=>exact ro.elim
        | _=>simp only[q];trivial
    | _=>trivial
  | _=>trivial
def oK (f:Str) (x:W):List (Str × W)->List (Str × W)
  | []=>[(f,x)]
  | (k,y)::r=>if k=f then(k,x)::r else(k,y)::oK f x r
theorem jg.put {f:Str}:∀ {us:List (Str × U)} {ws:List (Str × W)},jg v us ws->Rep v u w->jg v (UL.uQ f u us) (oK f w ws)
  | [],ws,r,x=>by
    cases ws with
    | nil=>exact⟨rfl,.cons x .nil⟩
    | cons a b=>exact absurd r.k (by simp)
  | (k,y)::us,ws,r,x=>by
    cases ws with
    | nil=>exact absurd r.k (by simp)
    | cons p ws=>
      obtain⟨k2,w2⟩:=p;obtain⟨hk,hx⟩:=r;simp only[List.map_cons,List.cons.injEq] at hk;obtain⟨rfl,hk⟩:=hk;cases hx with
      | cons a b=>
        unfold UL.uQ oK;split
        . exact⟨by simp[hk],.cons x b⟩
        . have ih:jg v (UL.uQ f u us) (oK f w ws):=jg.put ⟨hk,b⟩ x
          exact⟨by simp[ih.k],.cons a ih.x⟩
theorem jg.length {us:List (Str × U)} {ws:List (Str × W)} (r:jg v us ws):us.length=ws.length:=by
  have:=congrArg List.length r.k;simpa using this
def hX (cs:List Str) (f:Str) (fo:PE):PG:=fun w we g=>(quiet (fo we g)).bind fun o g1=>match o with
  | .d6 k=>(match g1[k]? with
    | some (.ins c fs)=>if c∈cs/\fs.length < 1000 then .ok we (g1.set k (.ins c (oK f w fs))) else .bad
    | _=>.bad)
  | _=>.bad
theorem mP {cs:List Str} {f:Str} (ha:JE dq ow fa pa):JG ow (UL.hX cs f fa) (hX cs f pa):=by
  intro v h g n0 su we u w d e r;refine(ha v h g n0 su we d e).quiet.bind fun a x v1 h1 g1 s1 r1=>?_
  have e2:=e.up d s1;cases x with
  | d6 k=>
    obtain⟨i,rfl,hi⟩:=a7.d6 r1 s1.wd;cases q:g1[k]? with
    | none=>simp only[q];trivial
    | some cl=>
      cases cl with
      | ins c fs=>
        simp only[q]
        by_cases hc:c∈cs/\fs.length < 1000
        . rw[if_pos hc]
          obtain⟨i',o,a1,a2,a3,ro⟩:=s1.wd.cm k _ q;rw[hi] at a1;cases a1
          cases o with
          | ins c' us=>
            obtain⟨rfl,ro⟩:=ro;have s3:=dz.El (c:=.ins c' (oK f w fs)) (o:=.ins c' (UL.uQ f u us)) s1.wd hi ⟨rfl,ro.put (r.up (s1.le d))⟩;refine⟨su,_,v1,?_,s3,e2.up s1.wd s3⟩;simp only[UL.kg,a3,ro.length,hc,and_self,if_true]
          | _=>exact ro.elim
        . simp only[if_neg hc];exact True.intro
      | _=>simp only[q];trivial
  | _=>trivial
end
end PQ

namespace PQ
open PySem UL
section
variable {v v' v'':Vw} {h h' h'':Hm} {g g' g'':G} {u u':U} {w w' z:W} {ow:List Nat} {fa fb fe:FE} {pa pb pe:PE} {fr fk:FA} {pr pk:PA} {t:FT} {pt:PT}
abbrev PI:=cA->G->PR (List W)
structure Its (v:Vw) (h:Hm) (src:Src) (ws:List W):Prop where
  it:∀ i w,ws[i]?=some w->∃ u,src i h=some (some u)/\Rep v u w
  no:∀ i,ws[i]?=none->src i h=some none
abbrev qD:RL Src (List W):=fun v _ src ws=>∀ v' h' g',Le v v'->Wd v' h' g'->Its v' h' src ws
abbrev IE:RL Src (List W):=fun v h src ws=>∀ g v' h' g',Wd v h g->dz v h g v' h' g'->Its v' h' src ws
theorem JE.src {ow:List Nat} {fi:FI} {pi:PI} (x:JE qD ow fi pi):JE IE ow fi pi:=fun v h g n0 su we d e=>(x v h g n0 su we d e).imp fun a b v' h' g' s r g1 v2 h2 g2 d2 s2=>r v2 h2 g2 (s2.le d2) s2.wd
def fL:W->Option (List W)
  | .tup ws=>some ws
  | .lst ws=>some ws
  | .str z=>some (z.map fun c=>.str [c])
  | _=>none
theorem Its.of {us:List U} {ws:List W} {src:Src} (r:aO v us ws) (e:∀ i,src i h=some us[i]?):Its v h src ws:=
  ⟨fun i w q=>by
    obtain⟨u,hu,ru⟩:=r.get q;exact⟨u,by rw[e,hu],ru⟩,fun i q=>by
    have:us[i]?=none:=by
      rw[List.getElem?_eq_none_iff] at q ⊢;rw[r.len];exact q
    rw[e,this]⟩
theorem lp (d:Wd v h g) (r:a7 v h u w) {ws:List W} (e:fL w=some ws):UL.km u h=true/\Its v h (UL.srcOf u) ws:=by
  cases w with
  | str x=>
    rw[r.c5 d];cases e
    refine⟨rfl,⟨fun i w q=>?_,fun i q=>?_⟩⟩
    . rw[List.getElem?_map] at q
      obtain⟨c,hc,rfl⟩:=mOsZ.mp q;exact⟨.str [c],by simp only[UL.srcOf,hc];rfl,.str _⟩
    . rw[List.getElem?_map] at q
      simp only[Option.map_eq_none_iff] at q;simp only[UL.srcOf,q];rfl
  | tup x=>
    obtain⟨us,rfl,rs⟩:=r.tup d;cases e
    exact⟨rfl,Its.of rs fun i=>rfl⟩
  | lst x=>
    obtain⟨i,us,rfl,q,rs⟩:=r.lst d;cases e
    exact⟨by simp only[UL.km,q],Its.of rs fun i=>by simp only[UL.srcOf,q]⟩
  | _=>cases e
def dZ (f:PE):PI:=fun we g=>(f we g).bind fun w g1=>match fL w with
  | some ws=>.ok ws g1
  | none=>.bad
theorem g9 (ha:JE rRep ow fa pa):JE qD ow (UL.dZ fa) (dZ pa):=by
  intro v h g n0 su we d e;refine(ha v h g n0 su we d e).bind fun a x v1 h1 g1 s1 r1=>?_
  cases q:fL x with
  | none=>trivial
  | some ws=>
    rw[if_pos (lp s1.wd (.rep r1) q).1];exact Res.ok s1.wd fun v' h' g' l d'=>(lp d' (.rep (r1.up l)) q).2
def cI (lo:Int) (n:Nat):List W:=(List.range n).map fun i:Nat=>.int (lo + (i:Int))
theorem qE {lo:Int} {n:Nat}:Its v h (UL.eF lo n) (cI lo n):=by
  refine⟨fun i w q=>?_,fun i q=>?_⟩
  . unfold cI at q
    rw[List.getElem?_map] at q;obtain⟨c,hc,rfl⟩:=mOsZ.mp q;obtain⟨hl,rfl⟩:=gEsZ.mp hc;simp at hl;exact⟨.int (lo + (i:Int)),by simp[UL.eF,hl],by simp;exact .int _⟩
  . unfold cI at q
    simp at q;simp[UL.eF];omega
def fB (fa:PA):PI:=fun we g=>(fa we g).bind fun ws g1=>match ws with
  | [.int j]=>if -(2 ^ 62)<=j/\j < 2 ^ 62 then .ok (cI 0 j.toNat) g1 else .bad
  | _=>.bad
def lH (fa:PA):PI:=fun we g=>(fa we g).bind fun ws g1=>match ws with
  | [.int i,.int j]=>if -(2 ^ 62)<=i/\i < 2 ^ 62/\-(2 ^ 62)<=j/\j < 2 ^ 62 then .ok (cI i (j - i).toNat) g1 else .bad
  | _=>.bad
theorem lr (hr:JE kO ow fr pr):JE qD ow (UL.fB fr) (fB pr):=by
  intro v h g n0 su we d e;refine(hr v h g n0 su we d e).bind fun a x v1 h1 g1 s1 r1=>?_
  rcases x with _ | ⟨w,_ | ⟨w2,_⟩⟩
  . trivial
  . cases w with
    | int j=>
      replace r1:=fg.one r1
      obtain⟨u,rfl,r1⟩:=r1;rw[r1.cG s1.wd]
      by_cases hc:-(2 ^ 62)<=j/\j < 2 ^ 62
      . simp only[if_pos hc]
        exact Res.ok s1.wd fun _ _ _ _ _=>qE
      . simp only[if_neg hc];exact True.intro
    | _=>trivial
  . cases w<;>trivial
theorem Dx (hr:JE kO ow fr pr):JE qD ow (UL.lH fr) (lH pr):=by
  intro v h g n0 su we d e;refine(hr v h g n0 su we d e).bind fun a x v1 h1 g1 s1 r1=>?_
  rcases x with _ | ⟨w,_ | ⟨w2,_ | ⟨w3,_⟩⟩⟩
  . trivial
  . cases w<;>trivial
  . cases w with
    | int j=>
      cases w2 with
      | int k=>
        replace r1:=fg.two r1
        obtain⟨u,u',rfl,r1,r2⟩:=r1;rw[r1.cG s1.wd,r2.cG s1.wd]
        by_cases hc:-(2 ^ 62)<=j/\j < 2 ^ 62/\-(2 ^ 62)<=k/\k < 2 ^ 62
        . simp only[if_pos hc]
          exact Res.ok s1.wd fun _ _ _ _ _=>qE
        . simp only[if_neg hc];exact True.intro
      | _=>trivial
    | _=>trivial
  . cases w<;>cases w2<;>trivial
def gD (ws:List W):List W:=ws.zipIdx.map fun p=>.tup [.int (p.2:Int),p.1]
theorem tP {ws:List W} (x:Its v h (UL.srcOf u) ws):Its v h (UL.iu u) (gD ws):=by
  refine⟨fun i w q=>?_,fun i q=>?_⟩
  . unfold gD at q
    rw[List.getElem?_map] at q;obtain⟨c,hc,rfl⟩:=mOsZ.mp q;rw[List.getElem?_zipIdx] at hc;obtain⟨y,hy,rfl⟩:=mOsZ.mp hc;obtain⟨u',hu,ru⟩:=x.it i y hy;refine⟨.tup [.int (i:Int),u'],by simp only[UL.iu,hu];rfl,?_⟩
    simp;exact .tup (.cons (.int _) (.cons ru .nil))
  . unfold gD at q
    have:ws[i]?=none:=by
      rw[List.getElem?_eq_none_iff] at q ⊢;simpa using q
    simp only[UL.iu,x.no i this];rfl
def jc (fa:PA):PI:=fun we g=>(fa we g).bind fun ws g1=>match ws with
  | [.lst ws]=>.ok (gD ws) g1
  | [.tup ws]=>.ok (gD ws) g1
  | _=>.bad
theorem rZ (hr:JE jf ow fr pr):JE qD ow (UL.jc fr) (jc pr):=by
  intro v h g n0 su we d e;refine(hr v h g n0 su we d e).bind fun a x v1 h1 g1 s1 r1=>?_
  rcases x with _ | ⟨w,_ | ⟨w2,_⟩⟩
  . trivial
  . cases r1 with
    | cons r1 r2=>
      cases r2
      cases w with
      | lst ws=>
        obtain⟨i,us,rfl,q,rs⟩:=(a7.rep r1).lst s1.wd;simp only[UL.km,q,if_true];exact Res.ok s1.wd fun v' h' g' l d'=>tP (lp d' (.rep (r1.up l)) (w:=.lst ws) rfl).2
      | tup ws=>
        obtain⟨us,rfl,rs⟩:=(a7.rep (h:=h1) r1).tup s1.wd;exact Res.ok s1.wd fun v' h' g' l d'=>tP (lp d' (.rep (r1.up l)) (w:=.tup ws) rfl).2
      | _=>trivial
  . cases w<;>trivial
def EK (ws xs:List W):List W:=List.zipWith (fun a b=>.tup [a,b]) ws xs
def Hy (fa:PA):PI:=fun we g=>(fa we g).bind fun ws g1=>match ws with
  | [.tup ws,.tup xs]=>.ok (EK ws xs) g1
  | [.tup ws,.lst xs]=>.ok (EK ws xs) g1
  | _=>.bad
def wipe (we:cA):List Nat->cA
  | []=>we
  | v::vs=>(wipe we vs).set v none
theorem br.unset {n0:Nat} {su:En} {we:cA} {i:Nat} (e:br v h n0 ow su we) (hi:i ∉ ow):br v h n0 ow (su.set i none) (we.set i none):=by
  refine⟨by simp[e.len],fun s x hs q=>?_,fun s hs=>?_,fun s s' r hs hs' q q'=>?_⟩
  . by_cases z:i=s
    . subst z
      have hl:i < we.length:=by
        have:=(gEsZ.mp q).1;simpa using this
      rw[List.getElem?_set_self hl] at q;cases q
    . rw[List.getElem?_set_ne z] at q
      obtain⟨u',hu,r'⟩:=e.val s x hs q;exact⟨u',by rw[List.getElem?_set_ne z];exact hu,r'⟩
  . obtain⟨r,o,x,h1,h2,h3⟩:=e.own s hs
    have z:i≠s:=fun z=>hi (z ▸ hs)
    exact⟨r,o,x,by rw[List.getElem?_set_ne z];exact h1,by rw[List.getElem?_set_ne z];exact h2,h3⟩
  . have z1:i≠s:=fun z=>hi (by rw[z];exact hs)
    have z2:i≠s':=fun z=>hi (by rw[z];exact hs')
    rw[List.getElem?_set_ne z1] at q;rw[List.getElem?_set_ne z2] at q';exact e.dis s s' r hs hs' q q'
theorem br.wipe {n0:Nat} {su:En} {we:cA} (e:br v h n0 ow su we):∀ {vs:List Nat},(∀ s∈vs,s ∉ ow)->br v h n0 ow (UL.iw su vs) (wipe we vs)
  | [],_=>e
  | s::vs,hs=>br.unset (br.wipe e fun x hx=>hs x (List.mem_cons_of_mem _ hx)) (hs s List.mem_cons_self)
def bQ (tg:PG) (t:PT) (fe:PE) (we:cA):List W->G->PR (List W)
  | [],g=>.ok [] g
  | x::xs,g=>(quiet (tg x we g)).bind fun we1 g1=>(quiet (t we1 g1)).bind fun k g2=>if k=true then
      ((quiet (fe we1 g2)).bind fun y g3=>(bQ tg t fe we xs g3).bind fun ys g4=>.ok (y::ys) g4) else bQ tg t fe we xs g2
def bj (fi:PI) (tg:PG) (t:PT) (fe:PE) (vs:List Nat):PE:=fun we g=>(fi we g).bind fun items g1=>(bQ tg t fe (wipe we vs) items g1).bind fun ys g2=>if items.length < 1099511627776/\ys.length<=16777216 then .ok (.lst ys) g2 else .bad
def b9:PT:=fun _ g=>.ok true g
theorem gq:JE rEq ow UL.b9 b9:=fun v h g n0 su we d e=>Res.ok d rfl
theorem mJ {α β:Type} {q:PR α} {k:α->G->PR β} {b:β} {g':G} (e:q.bind k=.ok b g'):∃ a g1,q=.ok a g1/\k a g1=.ok b g':=by
  cases q with
  | ok a g1=>exact⟨a,g1,rfl,e⟩
  | ex c fs g1=>cases e
  | bad=>cases e
theorem oM {α:Type} {q:PR α} {b:α} {g':G} (e:quiet q=.ok b g'):q=.ok b g':=by
  cases q with
  | ok a g1=>exact e
  | ex c fs g1=>cases e
  | bad=>cases e
theorem kJ {tg:PG} {t:PT} {fe:PE} {we:cA}:∀ {xs:List W} {g:G} {c:Str} {fs:List (Str × W)} {g':G},bQ tg t fe we xs g=.ex c fs g'->False
  | [],g,c,fs,g',e=>by cases e
  | x::xs,g,c,fs,g',e=>by
    unfold bQ at e;cases q1:tg x we g with
    | ok we1 g1=>
      rw[q1] at e;simp only[quiet,PR.bind] at e;cases q2:t we1 g1 with
      | ok k g2=>
        rw[q2] at e;simp only[quiet,PR.bind] at e;split at e
        . cases q3:fe we1 g2 with
          | ok y g3=>
            rw[q3] at e;simp only[quiet,PR.bind] at e;cases q4:bQ tg t fe we xs g3 with
            | ok ys g4=>rw[q4] at e;cases e
            | ex c' fs' g4=>exact kJ q4
            | bad=>rw[q4] at e;cases e
          | ex=>rw[q3] at e;cases e
          | bad=>rw[q3] at e;cases e
        . exact kJ e
      | ex=>rw[q2] at e;cases e
      | bad=>rw[q2] at e;cases e
    | ex=>rw[q1] at e;cases e
    | bad=>rw[q1] at e;cases e
theorem Res.Aq {α β:Type} {R:RL α β} {r:Rs α} {q:PR β} {b:β} {g':G} (x:Res R v h g r q) (e:q=.ok b g'):∃ a h' v',r=.ok a h'/\dz v h g v' h' g'/\R v' h' a b:=by
  subst e;exact x
theorem ni:1099511627776<=UL.gZ:=Classical.choose_spec (⟨1099511627776,Nat.le_refl _⟩:∃ n:Nat,1099511627776<=n)
theorem nY {tg:FG} {pg:PG} {n0:Nat} {su:En} {we:cA} {src:Src} {ws:List W} {D:Nat} {v0:Vw} {h0:Hm} {g0:G} (d0:Wd v0 h0 g0) (hsrc:∀ v' h' g',dz v0 h0 g0 v' h' g'->Its v' h' src ws) (hD:h0.length<=D) (hg:JG ow tg pg) (ht:JE rEq ow t pt) (he:JE rRep ow fe pe) (en:br v0 h0 n0 ow su we) :
    ∀ (xs:List W) (i n:Nat) (v:Vw) (h:Hm) (g:G) (us acc:_) (ys:List W) (g':G),ws.drop i=xs->xs.length < n->dz v0 h0 g0 v h g->mq v D->h[D]?=some (.lst us)->aO v us acc->bQ pg pt pe we xs g=.ok ys g'->acc.length + ys.length<=16777216 ->
    ∃ h' v' us',UL.bQ src tg t fe D su n i h=.ok () h'/\dz v0 h0 g0 v' h' g'/\mq v' D/\h'[D]?=some (.lst us')/\aO v' us' (acc++ys)
  | [],i,n,v,h,g,us,acc,ys,g',hx,hn,s,f,eD,ra,e,hl=>by
    cases e
    cases n with
    | zero=>cases hn
    | succ n=>
      have:ws[i]?=none:=by
        rw[List.getElem?_eq_none_iff];have:=congrArg List.length hx;simp at this;omega
      refine⟨h,v,us,?_,s,f,eD,by simpa using ra⟩
      unfold UL.bQ;rw[(hsrc v h g s).no i this]
  | x::xs,i,n,v,h,g,us,acc,ys,g',hx,hn,s,f,eD,ra,e,hl=>by
    cases n with
    | zero=>cases hn
    | succ n=>
      have hw:ws[i]?=some x:=by
        have:=congrArg (fun l=>l[0]?) hx
        simpa using this
      have hx':ws.drop (i + 1)=xs:=by
        rw[<- List.drop_drop,hx];rfl
      obtain⟨u,hu,ru⟩:=(hsrc v h g s).it i x hw;have en1:=en.up d0 s;unfold bQ at e;obtain⟨we1,g1,q1,e⟩:=mJ e;obtain⟨su1,h1,v1,x1,s1,r1⟩:=(hg v h g n0 su we u x s.wd en1 ru).Aq (oM q1);obtain⟨k,g2,q2,e⟩:=mJ e;obtain⟨k',h2,v2,x2,s2,r2⟩:=(ht v1 h1 g1 n0 su1 we1 s1.wd r1).Aq (oM q2);have r2:k'=k:=r2;subst r2;have s12:=s1.trans s2;have f2:=f.up s12 (gEsZ.mp eD).1;have eD2:=f.at s12 eD;have ra2:=ra.up (s12.le s.wd)
      have hun:UL.bQ src tg t fe D su (n + 1) i h=(if k'=true then
        ((UL.bx (fe su1 h2)).bind fun y h3=>match h3[D]? with
          | some (.lst acc)=>if acc.length < 16777216 then UL.bQ src tg t fe D su n (i + 1) (h3.set D (.lst (acc++[y]))) else .bad
          | _=>.bad) else UL.bQ src tg t fe D su n (i + 1) h2):=by
        conv=>lhs;unfold UL.bQ
        rw[hu];simp only[x1,UL.bx,Rs.bind,x2]
        all_goals rfl
      rw[hun];cases k' with
      | true=>
        rw[if_pos rfl] at e ⊢;obtain⟨y,g3,q3,e⟩:=mJ e;obtain⟨ys',g4,q4,e⟩:=mJ e;cases e
        obtain⟨uy,h3,v3,x3,s3,r3⟩:=(he v2 h2 g2 n0 su1 we1 s2.wd (r1.up s1.wd s2)).Aq (oM q3);have f3:=f2.up s3 (gEsZ.mp eD2).1;have eD3:=f2.at s3 eD2;have ra3:=ra2.up (s3.le s2.wd);have s03:=(s.trans s12).trans s3;simp only[x3,UL.bx,Rs.bind,eD3]
        have hlt:us.length < 16777216:=by
          rw[ra.len];simp at hl;omega
        rw[if_pos hlt];have s04:=s03.put (o:=.lst (us++[uy])) hD f3;obtain⟨h',v',us',y1,y2,y3,y4,y5⟩:=nY d0 hsrc hD hg ht he en xs (i + 1) n v3 (h3.set D (.lst (us++[uy]))) g3 (us++[uy]) (acc++[y]) ys' _ hx' (by simp at hn;omega) s04 f3 (List.getElem?_set_self (gEsZ.mp eD3).1) (ra3.app (.cons r3 .nil)) q4 (by simp at hl ⊢;omega)
        exact⟨h',v',us',y1,y2,y3,y4,by simpa using y5⟩
      | false=>
        rw[if_neg Bool.false_ne_true] at e ⊢;exact nY d0 hsrc hD hg ht he en xs (i + 1) n v2 h2 g2 us acc ys g' hx' (by simp at hn;omega) (s.trans s12) f2 eD2 ra2 e hl
theorem dX {fi:FI} {pi:PI} {tg:FG} {pg:PG} {vs:List Nat} (hi:JE IE ow fi pi) (hg:JG ow tg pg) (ht:JE rEq ow t pt) (he:JE rRep ow fe pe) (hv:∀ s∈vs,s ∉ ow):JN ow (UL.bj fi tg t fe vs) (bj pi pg pt pe vs):=by
  intro v h g n0 su we d e;refine(hi v h g n0 su we d e).bind fun src items v1 h1 g1 s1 r1=>?_
  cases q:bQ pg pt pe (wipe we vs) items g1 with
  | bad=>trivial
  | ex c fs g2=>exact(kJ q).elim
  | ok ys g2=>
    by_cases hc:items.length < 1099511627776/\ys.length<=16777216
    . have sp:=dz.push (o:=.lst []) s1.wd
      obtain⟨h',v',us',y1,y2,y3,y4,y5⟩:=nY (D:=h1.length) s1.wd (fun v' h' g' s=>r1 g1 v' h' g' s1.wd s) (Nat.le_refl _) hg ht he ((e.up d s1).wipe hv) items 0 gZ v1 (h1++[.lst []]) g1 [] [] ys g2 rfl (Nat.lt_of_lt_of_le hc.1 ni) sp (mq.new s1.wd) (by simp) .nil q (by simpa using hc.2)
      rw[y1];simp only[PR.bind,if_pos hc];have y6:aO v' us' ys:=by simpa using y5
      exact⟨.ref h1.length,h',v',rfl,y2,h1.length,.lst us',rfl,s1.hl,y4,y6,y3⟩
    . simp only[PR.bind,if_neg hc];exact True.intro
def eT:List (PE × PE)->cA->G->PR (List (W × W))
  | [],_,g=>.ok [] g
  | (fk,fv)::ps,we,g=>(fk we g).bind fun k g1=>(fv we g1).bind fun v g2=>(eT ps we g2).bind fun r g3=>.ok ((k,v)::r) g3
abbrev rP:RL (List (U × U)) (List (W × W)):=fun v _ us ws=>ff v us ws
def Jj (ow:List Nat) (ps:List (FE × FE)) (pp:List (PE × PE)):Prop:=JE rP ow (UL.eT ps) (eT pp)
theorem xq:Jj ow [] []:=fun v h g n0 su we d e=>Res.ok d ⟨.nil,.nil⟩
theorem iI {ps:List (FE × FE)} {pp:List (PE × PE)} (ha:JE rRep ow fa pa) (hb:JE rRep ow fb pb) (hr:Jj ow ps pp):Jj ow ((fa,fb)::ps) ((pa,pb)::pp):=by
  intro v h g n0 su we d e;refine(ha v h g n0 su we d e).bind fun a x v1 h1 g1 s1 r1=>?_
  have e1:=e.up d s1;refine(hb v1 h1 g1 n0 su we s1.wd e1).bind fun b y v2 h2 g2 s2 r2=>?_
  refine Res.bind (hr v2 h2 g2 n0 su we s2.wd (e1.up s1.wd s2)) fun c z v3 h3 g3 s3 r3=>?_
  exact Res.ok s3.wd ⟨.cons ((r1.up (s2.le s1.wd)).up (s3.le s2.wd)) r3.k,.cons (r2.up (s3.le s2.wd)) r3.x⟩
def js (kvs:List (W × W)) (k x:W):List (W × W):=
  if (kvs.any fun kv=>decide (d4 kv.1=d4 k))=true then kvs.map (fun kv=>if d4 kv.1=d4 k then(kv.1,x) else kv) else kvs++[(k,x)]
theorem AU (d:Wd v h g) (r:Rep v u w) (r':Rep v u' w') (k1:(d4 w).isSome=true) (k2:(d4 w').isSome=true):UL.eS u=UL.eS u' ↔ d4 w=d4 w':=by
  obtain⟨q,hq⟩:=Option.isSome_iff_exists.mp k1;obtain⟨q',hq'⟩:=Option.isSome_iff_exists.mp k2;rw[i3 d (.rep r) hq,i3 d (.rep r') hq',hq,hq'];exact⟨fun e=>congrArg some (nU (Option.some.inj e)),fun e=>by cases e;rfl⟩
theorem wY (d:Wd v h g) (r:Rep v u w) (k2:(d4 w).isSome=true):∀ {us:List (U × U)} {ws:List (W × W)},ff v us ws->c6 ws=true->(us.any fun kv=>decide (UL.eS kv.1=UL.eS u))=ws.any fun kv=>decide (d4 kv.1=d4 w)
  | [],ws,rp,hk=>by
    cases ws with
    | nil=>rfl
    | cons a b=>have:=rp.k.len;simp at this
  | (ku,xu)::us,ws,rp,hk=>by
    cases ws with
    | nil=>have:=rp.k.len;simp at this
    | cons a ws=>
      obtain⟨r1,r2⟩:=rp;cases r1 with
      | cons a1 a2=>
        cases r2 with
        | cons b1 b2=>
          unfold c6 at hk;rw[List.all_cons,Bool.and_eq_true] at hk;rw[List.any_cons,List.any_cons,wY d r k2 ⟨a2,b2⟩ hk.2];have:=AU d a1 r hk.1 k2;simp only[this]
theorem xF (d:Wd v h g) (r:Rep v u w) (k2:(d4 w).isSome=true) (rx:Rep v u' w'):∀ {us:List (U × U)} {ws:List (W × W)},ff v us ws->c6 ws=true->ff v (us.map (fun kv=>if UL.eS kv.1=UL.eS u then(kv.1,u') else kv)) (ws.map (fun kv=>if d4 kv.1=d4 w then(kv.1,w') else kv))
  | [],ws,rp,hk=>by
    cases ws with
    | nil=>exact rp
    | cons a b=>have:=rp.k.len;simp at this
  | (ku,xu)::us,ws,rp,hk=>by
    cases ws with
    | nil=>have:=rp.k.len;simp at this
    | cons a ws=>
      obtain⟨r1,r2⟩:=rp;cases r1 with
      | cons a1 a2=>
        cases r2 with
        | cons b1 b2=>
          unfold c6 at hk;rw[List.all_cons,Bool.and_eq_true] at hk;have ih:=xF d r k2 rx (us:=us) (ws:=ws) ⟨a2,b2⟩ hk.2;have:=AU d a1 r hk.1 k2;rw[List.map_cons,List.map_cons]
          by_cases z:d4 a.1=d4 w
          . rw[if_pos z,if_pos (this.mpr z)]
            exact⟨.cons a1 ih.k,.cons rx ih.x⟩
          . rw[if_neg z,if_neg fun y=>z (this.mp y)]
            exact⟨.cons a1 ih.k,.cons b1 ih.x⟩
theorem CY (d:Wd v h g) {us:List (U × U)} {ws:List (W × W)} (rp:ff v us ws) (hk:c6 ws=true) (r:Rep v u w) (k2:(d4 w).isSome=true) (rx:Rep v u' w'):ff v (UL.lb us u u') (js ws w w'):=by
  unfold UL.lb js;rw[wY d r k2 rp hk];split
  . exact xF d r k2 rx rp hk
  . exact⟨by rw[List.map_append,List.map_append];exact rp.k.app (.cons r .nil),by rw[List.map_append,List.map_append];exact rp.x.app (.cons rx .nil)⟩
theorem yA {ws:List (W × W)} {x y:W} (hk:c6 ws=true) (k2:(d4 x).isSome=true):c6 (js ws x y)=true:=by
  unfold js;split
  . unfold c6 at hk ⊢
    rw[List.all_map];refine List.all_eq_true.mpr fun p hp=>?_
    have:=List.all_eq_true.mp hk p hp;simp only[Function.comp];split<;>exact this
  . unfold c6 at hk ⊢
    rw[List.all_append,hk];simp[k2]
theorem tY (d:Wd v h g):∀ {us:List (U × U)} {ws:List (W × W)} {ac:List (U × U)} {aw:List (W × W)},ff v us ws->c6 ws=true->ff v ac aw->c6 aw=true->ff v (us.foldl (fun acc kv=>UL.lb acc kv.1 kv.2) ac) (ws.foldl (fun acc kv=>js acc kv.1 kv.2) aw)
  | [],ws,ac,aw,rp,hk,ra,ha=>by
    cases ws with
    | nil=>exact ra
    | cons a b=>have:=rp.k.len;simp at this
  | (ku,xu)::us,ws,ac,aw,rp,hk,ra,ha=>by
    cases ws with
    | nil=>have:=rp.k.len;simp at this
    | cons a ws=>
      obtain⟨r1,r2⟩:=rp;cases r1 with
      | cons a1 a2=>
        cases r2 with
        | cons b1 b2=>
          unfold c6 at hk;rw[List.all_cons,Bool.and_eq_true] at hk;have:=tY d (us:=us) (ws:=ws) ⟨a2,b2⟩ hk.2 (CY d ra ha a1 hk.1 b1) (yA (y:=a.2) ha hk.1);exact this
theorem nh (d:Wd v h g):∀ {us:List (U × U)} {ws:List (W × W)},ff v us ws->c6 ws=true->UL.jT us=true
  | [],ws,rp,hk=>rfl
  | (ku,xu)::us,ws,rp,hk=>by
    cases ws with
    | nil=>have:=rp.k.len;simp at this
    | cons a ws=>
      obtain⟨r1,r2⟩:=rp;cases r1 with
      | cons a1 a2=>
        cases r2 with
        | cons b1 b2=>
          unfold c6 at hk;rw[List.all_cons,Bool.and_eq_true] at hk;obtain⟨q,hq⟩:=Option.isSome_iff_exists.mp hk.1;unfold UL.jT;rw[i3 d (.rep a1) hq,nh d ⟨a2,b2⟩ hk.2];rfl
def jb (ps:List (PE × PE)):PE:=fun we g=>(eT ps we g).bind fun kvs g2=>if c6 kvs=true/\kvs.length<=15 then .ok (.cq (kvs.foldl (fun acc kv=>js acc kv.1 kv.2) [])) g2 else .bad
theorem xo {ps:List (FE × FE)} {pp:List (PE × PE)} (hp:Jj ow ps pp):JN ow (UL.jb ps) (jb pp):=by
  intro v h g n0 su we d e;have sp:=dz.push (o:=.cq []) d;have x:=hp v (h++[.cq []]) g n0 su we sp.wd (e.up d sp);have f:=mq.new d;unfold UL.jb jb;cases q:eT pp we g with
  | bad=>trivial
  | ex c fs g2=>
    rw[q] at x;obtain⟨us,h2,v2,x1,x2,x3⟩:=x;rw[x1];exact⟨us,h2,v2,rfl,sp.trans x2,x3⟩
  | ok kvs g2=>
    rw[q] at x;obtain⟨us,h2,v2,x1,x2,x3⟩:=x;have f2:=f.up x2 (by simp)
    have eD:h2[h.length]?=some (.cq []):=f.at x2 (by simp)
    simp only[PR.bind]
    by_cases hc:c6 kvs=true/\kvs.length<=15
    . rw[if_pos hc]
      have hl:us.length=kvs.length:=by
        have:=x3.k.len;simpa using this
      have hf:ff v2 _ _:=tY x2.wd x3 hc.1 (ac:=[]) (aw:=[]) ⟨.nil,.nil⟩ rfl;refine⟨.ref h.length,h2.set h.length _,v2,?_,(sp.trans x2).put (Nat.le_refl _) f2,h.length,.cq _,rfl,Nat.le_refl _,List.getElem?_set_self (gEsZ.mp eD).1,hf,f2⟩;rw[x1];simp only[Rs.bind,eD,nh x2.wd x3 hc.1,hl,hc.2,decide_true,Bool.and_self,if_true]
    . rw[if_neg hc];trivial
end
end PQ

namespace PQ
open PySem UL
inductive yo where
  | nx (we:cA) (g:G)
  | rt (w:W) (g:G)
  | bk (we:cA) (g:G)
  | ex (c:Str) (fs:List (Str × W)) (g:G)
  | bad
abbrev PS:=cA->G->yo
def PR.st {α:Type} (r:PR α) (k:α->G->yo):yo:=match r with
  | .ok a g=>k a g
  | .ex c fs g=>.ex c fs g
  | .bad=>.bad
section
variable {v v' v'':Vw} {h h' h'':Hm} {g g' g'':G} {u u':U} {w w' z:W} {ow ow' ow2 ob:List Nat} {fa fb fe:FE} {pa pb pe:PE} {fr fk:FA} {pr pk:PA} {t:FT} {pt:PT}
def gY (v0:Vw) (h0:Hm) (g0:G) (v:Vw) (ow ob:List Nat) (r:Fl) (q:yo):Prop:=match q with
  | .nx we g'=>∃ su h' v',r=.nx su h'/\dz v0 h0 g0 v' h' g'/\Le v v'/\br v' h' h0.length ow su we
  | .bk we g'=>∃ su h' v',r=.bk su h'/\dz v0 h0 g0 v' h' g'/\Le v v'/\br v' h' h0.length ob su we
  | .rt w g'=>∃ u h' v',r=.rt u h'/\dz v0 h0 g0 v' h' g'/\Rep v' u w
  | .ex c fs g'=>∃ us su h' v',r=.ex c us su h'/\dz v0 h0 g0 v' h' g'/\jg v' us fs
  | .bad=>True
def JS (ow ow' ob:List Nat) (f:FS) (p:PS):Prop:=∀ v0 h0 g0 v h g su we,dz v0 h0 g0 v h g->br v h h0.length ow su we->gY v0 h0 g0 v ow' ob (f su h) (p we g)
theorem gY.le {v0:Vw} {h0:Hm} {g0:G} {r:Fl} {q:yo} (l:Le v v') (x:gY v0 h0 g0 v' ow ob r q):gY v0 h0 g0 v ow ob r q:=by
  cases q with
  | nx we g2=>obtain⟨su,h2,v2,a,b,c,d⟩:=x;exact⟨su,h2,v2,a,b,l.trans c,d⟩
  | bk we g2=>obtain⟨su,h2,v2,a,b,c,d⟩:=x;exact⟨su,h2,v2,a,b,l.trans c,d⟩
  | rt=>exact x
  | ex=>exact x
  | bad=>exact x
theorem gY.st {α β:Type} {R:RL α β} {v0:Vw} {h0:Hm} {g0:G} {r:Rs α} {q:PR β} {su:En} {k:α->Hm->Fl} {kp:β->G->yo} (s:dz v0 h0 g0 v h g) (x:Res R v h g r q)
    (y:∀ a b v' h' g',dz v h g v' h' g'->R v' h' a b->gY v0 h0 g0 v' ow ob (k a h') (kp b g')):gY v0 h0 g0 v ow ob (r.st su k) (q.st kp):=by
  cases q with
  | ok b g2=>
    obtain⟨a,h2,v2,rfl,s2,r⟩:=x;exact(y a b v2 h2 g2 s2 r).le (s2.le s.wd)
  | ex c fs g2=>
    obtain⟨a,h2,v2,rfl,s2,r⟩:=x;exact⟨a,su,h2,v2,rfl,s.trans s2,r⟩
  | bad=>trivial
theorem br.JQ {v0:Vw} {h0:Hm} {g0:G} {su:En} {we:cA} {i:Nat} (s:dz v0 h0 g0 v h g) (e:br v h h0.length ow su we):∃ v',Le v v'/\dz v0 h0 g0 v' h g/\br v' h h0.length (ow.filter (· != i)) su we:=by
  by_cases hi:i∈ow
  . obtain⟨r,o,x,h1,h2,h3,h4,h5,h6⟩:=e.own i hi
    have l:=Vw.vT (w:=x) h5.fz;refine⟨v.frz r x,l,s.frz h6 h5 h3 h4,e.len,fun j y hj q=>?_,fun j hj=>?_,fun j j' r' hj hj'=>e.dis j j' r' (List.mem_filter.mp hj).1 (List.mem_filter.mp hj').1⟩
    . by_cases z:j=i
      . subst z
        rw[h2] at q;cases q
        exact⟨_,h1,.fro Vw.lj⟩
      . have hj:j ∉ ow:=fun y=>hj (List.mem_filter.mpr ⟨y,by simpa using z⟩)
        obtain⟨u',hu,ru⟩:=e.val j y hj q;exact⟨u',hu,ru.up l⟩
    . obtain⟨hj,hz⟩:=List.mem_filter.mp hj
      have z:j≠i:=by simpa using hz
      obtain⟨r',o',x',k1,k2,k3,k4,k5,k6⟩:=e.own j hj;have hr:r'≠r:=fun y=>by subst y;exact z (e.dis j i r' hj hi k1 h1)
      exact⟨r',o',x',k1,k2,k3,k4.up l,⟨by show(if r'=r then some x else v.fz r')=none;rw[if_neg hr];exact k5.fz,k5.cm⟩,k6⟩
  . have:ow.filter (· != i)=ow:=List.filter_eq_self.mpr fun a ha=>by
      have:a≠i:=fun z=>hi (z ▸ ha)
      simpa using this
    rw[this];exact⟨v,.refl,s,e⟩
def IH (ow:List Nat):List Nat->List Nat
  | []=>ow
  | i::l=>(IH ow l).filter (· != i)
theorem br.frz {v0:Vw} {h0:Hm} {g0:G} {su:En} {we:cA} (s:dz v0 h0 g0 v h g) (e:br v h h0.length ow su we):∀ l:List Nat,∃ v',Le v v'/\dz v0 h0 g0 v' h g/\br v' h h0.length (IH ow l) su we
  | []=>⟨v,.refl,s,e⟩
  | i::l=>by
    obtain⟨v1,l1,s1,e1⟩:=br.frz s e l;obtain⟨v2,l2,s2,e2⟩:=br.JQ (i:=i) s1 e1;exact⟨v2,l1.trans l2,s2,e2⟩
theorem xU:∀ {l ow:List Nat} {s:Nat},s∈IH ow l ↔ s∈ow/\s ∉ l
  | [],ow,s=>by simp[IH]
  | i::l,ow,s=>by
    simp only[IH,List.mem_filter,xU,List.mem_cons,not_or]
    constructor
    . rintro⟨⟨a,b⟩,c⟩
      exact⟨a,by simpa using c,b⟩
    . rintro⟨a,b,c⟩
      exact⟨⟨a,c⟩,by simpa using b⟩
theorem br.perm {n0:Nat} {su:En} {we:cA} (e:br v h n0 ow su we) (hs:∀ s,s∈ow2 ↔ s∈ow):br v h n0 ow2 su we:=
  ⟨e.len,fun s w k=>e.val s w fun y=>k ((hs s).mpr y),fun s k=>e.own s ((hs s).mp k),fun s s' r k k'=>e.dis s s' r ((hs s).mp k) ((hs s').mp k')⟩
theorem br.sub {v0:Vw} {h0:Hm} {g0:G} {su:En} {we:cA} (s:dz v0 h0 g0 v h g) (e:br v h h0.length ow su we) (hs:∀ s∈ow2,s∈ow):∃ v',Le v v'/\dz v0 h0 g0 v' h g/\br v' h h0.length ow2 su we:=by
  obtain⟨v',l,s',e'⟩:=br.frz s e (ow.filter fun s=>!(decide (s∈ow2)))
  refine⟨v',l,s',e'.perm fun s=>?_⟩
  rw[xU,List.mem_filter]
  constructor
  . intro k
    exact⟨hs s k,fun⟨_,y⟩=>by simp[k] at y⟩
  . rintro⟨a,b⟩
    by_cases z:s∈ow2
    . exact z
    . exact absurd ⟨a,by simp[z]⟩ b
theorem Gk {f:FS} {p:PS} (x:JS ow2 ow' ob f p) (hs:∀ s∈ow2,s∈ow):JS ow ow' ob f p:=by
  intro v0 h0 g0 v h g su we s e;obtain⟨v1,l1,s1,e1⟩:=br.sub s e hs;exact(x v0 h0 g0 v1 h g su we s1 e1).le l1
theorem bK {f:FS} {p:PS} (x:JS ow ow2 ob f p) (hs:∀ s∈ow',s∈ow2):JS ow ow' ob f p:=by
  intro v0 h0 g0 v h g su we s e;have y:=x v0 h0 g0 v h g su we s e;cases q:p we g with
  | nx we' g'=>
    rw[q] at y;obtain⟨su2,h2,v2,a,b,c,d⟩:=y;obtain⟨v1,l1,s1,e1⟩:=br.sub b d hs;exact⟨su2,h2,v1,a,s1,c.trans l1,e1⟩
  | bk=>rw[q] at y;exact y
  | rt=>rw[q] at y;exact y
  | ex=>rw[q] at y;exact y
  | bad=>trivial
def aH:PS:=fun we g=>.nx we g
def dJ:PS:=fun we g=>.bk we g
def jl:PS:=fun _ _=>.bad
theorem aU:JS ow ow ob UL.aH aH:=fun v0 h0 g0 v h g su we s e=>⟨su,h,v,rfl,s,.refl,e⟩
def aA (f g:PS):PS:=fun we c=>match f we c with
  | .nx we' c'=>g we' c'
  | r=>r
theorem aF {f f2:FS} {p p2:PS} (x:JS ow ow2 ob f p) (y:JS ow2 ow' ob f2 p2):JS ow ow' ob (UL.aA f f2) (aA p p2):=by
  intro v0 h0 g0 v h g su we s e;have a:=x v0 h0 g0 v h g su we s e;unfold aA;cases q:p we g with
  | nx we' g'=>
    rw[q] at a;obtain⟨su2,h2,v2,a1,a2,a3,a4⟩:=a;have:UL.aA f f2 su h=f2 su2 h2:=by unfold UL.aA;rw[a1]
    rw[this];exact(y v0 h0 g0 v2 h2 g' su2 we' a2 a4).le a3
  | bk we' g'=>
    rw[q] at a;obtain⟨su2,h2,v2,a1,a2⟩:=a;exact⟨su2,h2,v2,by unfold UL.aA;rw[a1],a2⟩
  | rt w g'=>
    rw[q] at a;obtain⟨su2,h2,v2,a1,a2⟩:=a;exact⟨su2,h2,v2,by unfold UL.aA;rw[a1],a2⟩
  | ex c fs g'=>
    rw[q] at a;obtain⟨us,su2,h2,v2,a1,a2⟩:=a;exact⟨us,su2,h2,v2,by unfold UL.aA;rw[a1],a2⟩
  | bad=>trivial
def fu (f:PE):PS:=fun we g=>(f we g).st fun _ g1=>.nx we g1
theorem xr (ha:JE dq ow fa pa):JS ow ow ob (UL.fu fa) (fu pa):=by
  intro v0 h0 g0 v h g su we s e;refine gY.st s (ha v h g h0.length su we s.wd e) fun a b v1 h1 g1 s1 r1=>?_
  exact⟨su,h1,v1,rfl,s.trans s1,.refl,e.up s.wd s1⟩
def retS (f:PE):PS:=fun we g=>(f we g).st fun w g1=>.rt w g1
theorem a6 (ha:JE rRep ow fa pa):JS ow ow' ob (UL.retS fa) (retS pa):=by
  intro v0 h0 g0 v h g su we s e;refine gY.st s (ha v h g h0.length su we s.wd e) fun a b v1 h1 g1 s1 r1=>?_
  exact⟨a,h1,v1,rfl,s.trans s1,r1⟩
def cJ (c:PT) (f g:PS):PS:=fun we k=>(c we k).st fun b g1=>if b=true then f we g1 else g we g1
theorem bI {f f2:FS} {p p2:PS} (ht:JE rEq ow t pt) (x:JS ow ow' ob f p) (y:JS ow ow' ob f2 p2):JS ow ow' ob (UL.cJ t f f2) (cJ pt p p2):=by
  intro v0 h0 g0 v h g su we s e;refine gY.st s (ht v h g h0.length su we s.wd e) fun a b v1 h1 g1 s1 r1=>?_
  have r1:a=b:=r1;subst r1;cases a with
  | true=>exact x v0 h0 g0 v1 h1 g1 su we (s.trans s1) (e.up s.wd s1)
  | false=>exact y v0 h0 g0 v1 h1 g1 su we (s.trans s1) (e.up s.wd s1)
def bf (i:Nat) (f:PE):PS:=fun we g=>(f we g).st fun w g1=>.nx (we.set i (some w)) g1
theorem br.IW {n0:Nat} {su:En} {we:cA} {i:Nat} (e:br v h n0 ow su we) (r:Rep v u w):br v h n0 (ow.filter (· != i)) (su.set i (some u)) (we.set i (some w)):=by
  refine⟨by simp[e.len],fun s x hs q=>?_,fun s hs=>?_,fun s s' r hs hs' q q'=>?_⟩
  . by_cases z:i=s
    . subst z
      have hl:i < we.length:=by
        have:=(gEsZ.mp q).1;simpa using this
      rw[List.getElem?_set_self hl] at q;cases q
      exact⟨u,List.getElem?_set_self (by rw[e.len];exact hl),r⟩
    . rw[List.getElem?_set_ne z] at q
      have hs:s ∉ ow:=fun y=>hs (List.mem_filter.mpr ⟨y,by simpa using Ne.symm z⟩)
      obtain⟨u',hu,r'⟩:=e.val s x hs q;exact⟨u',by rw[List.getElem?_set_ne z];exact hu,r'⟩
  . obtain⟨hs,hz⟩:=List.mem_filter.mp hs
    have z:i≠s:=by simpa using Ne.symm (by simpa using hz)
    obtain⟨r,o,x,h1,h2,h3⟩:=e.own s hs;exact⟨r,o,x,by rw[List.getElem?_set_ne z];exact h1,by rw[List.getElem?_set_ne z];exact h2,h3⟩
  . obtain⟨hs,hz⟩:=List.mem_filter.mp hs
    obtain⟨hs',hz'⟩:=List.mem_filter.mp hs';have z:i≠s:=by simpa using Ne.symm (by simpa using hz)
    have z':i≠s':=by simpa using Ne.symm (by simpa using hz')
    rw[List.getElem?_set_ne z] at q;rw[List.getElem?_set_ne z'] at q';exact e.dis s s' r hs hs' q q'
theorem br.Ke {n0 r:Nat} {o:O} {su:En} {we:cA} {i:Nat} (e:br v h n0 ow su we) (hi:i < we.length) (hr:n0<=r) (ho:h[r]?=some o) (ro:dI v o w) (f:mq v r) (hf:∀ s∈ow,su[s]?≠some (some (U.ref r))) :
    br v h n0 (i::ow.filter (· != i)) (su.set i (some (.ref r))) (we.set i (some w)):=by
  have hi':i < su.length:=by rw[e.len];exact hi
  refine⟨by simp[e.len],fun s x hs q=>?_,fun s hs=>?_,fun s s' r' hs hs' q q'=>?_⟩
  . have z:i≠s:=fun y=>hs (by rw[y];exact List.mem_cons_self)
    rw[List.getElem?_set_ne z] at q;have hs:s ∉ ow:=fun y=>hs (List.mem_cons_of_mem _ (List.mem_filter.mpr ⟨y,by simpa using Ne.symm z⟩))
    obtain⟨u',hu,r'⟩:=e.val s x hs q;exact⟨u',by rw[List.getElem?_set_ne z];exact hu,r'⟩
  . by_cases z:i=s
    . subst z
      exact⟨r,o,w,List.getElem?_set_self hi',List.getElem?_set_self hi,ho,ro,f,hr⟩
    . rcases List.mem_cons.mp hs with rfl | hs
      . exact absurd rfl z
      . obtain⟨hs,hz⟩:=List.mem_filter.mp hs
        obtain⟨r,o,x,h1,h2,h3⟩:=e.own s hs;exact⟨r,o,x,by rw[List.getElem?_set_ne z];exact h1,by rw[List.getElem?_set_ne z];exact h2,h3⟩
  . have key:∀ {s:Nat},s∈i::ow.filter (· != i)->i=s\/s∈ow/\i≠s:=fun {s} hs=>by
      rcases List.mem_cons.mp hs with rfl | hs
      . exact .inl rfl
      . obtain⟨hs,hz⟩:=List.mem_filter.mp hs
        exact .inr ⟨hs,by simpa using Ne.symm (by simpa using hz)⟩
    rcases key hs with rfl | ⟨a,b⟩
    . rcases key hs' with rfl | ⟨a',b'⟩
      . rfl
      . rw[List.getElem?_set_self hi'] at q
        rw[List.getElem?_set_ne b'] at q';cases q
        exact absurd q' (hf s' a')
    . rcases key hs' with rfl | ⟨a',b'⟩
      . rw[List.getElem?_set_self hi'] at q'
        rw[List.getElem?_set_ne b] at q;cases q'
        exact absurd q (hf s a)
      . rw[List.getElem?_set_ne b] at q
        rw[List.getElem?_set_ne b'] at q';exact e.dis s s' r' a a' q q'
theorem bF {i:Nat} (ha:JE rRep ow fa pa) (hw:ow.filter (· != i)=ow'):JS ow ow' ob (UL.bf i fa) (bf i pa):=by
  subst hw;intro v0 h0 g0 v h g su we s e;refine gY.st s (ha v h g h0.length su we s.wd e) fun a b v1 h1 g1 s1 r1=>?_
  exact⟨_,h1,v1,rfl,s.trans s1,.refl,(e.up s.wd s1).IW r1⟩
theorem br.GU {n0:Nat} {su:En} {we:cA} (e:br v h n0 ow su we) {s r:Nat} (hs:s∈ow) (q:su[s]?=some (some (U.ref r))):r < h.length:=by
  obtain⟨r',o,x,h1,h2,h3,_⟩:=e.own s hs;rw[q] at h1;cases h1
  exact(gEsZ.mp h3).1
def dh (f:PE) (tg:PG):PS:=fun we g=>(f we g).st fun w g1=>(tg w we g1).st fun we' g2=>.nx we' g2
theorem fN {tg:FG} {pg:PG} (ha:JE rRep ow fa pa) (hg:JG ow tg pg):JS ow ow ob (UL.dh fa tg) (dh pa pg):=by
  intro v0 h0 g0 v h g su we s e;refine gY.st s (ha v h g h0.length su we s.wd e) fun a b v1 h1 g1 s1 r1=>?_
  refine gY.st (s.trans s1) (hg v1 h1 g1 h0.length su we a b s1.wd (e.up s.wd s1) r1) fun su' we' v2 h2 g2 s2 r2=>?_
  exact⟨su',h2,v2,rfl,(s.trans s1).trans s2,.refl,r2⟩
inductive Args (v:Vw) (h:Hm):Nat->List Bool->List U->List W->Prop
  | nil {n:Nat}:Args v h n [] [] []
  | val {n:Nat} {ks:List Bool} {u:U} {w:W} {us:List U} {ws:List W}:Rep v u w->Args v h n ks us ws->Args v h n (false::ks) (u::us) (w::ws)
  | new {n r:Nat} {o:O} {ks:List Bool} {w:W} {us:List U} {ws:List W}:n<=r->h[r]?=some o->dI v o w->mq v r->Args v h (r + 1) ks us ws->Args v h n (true::ks) (.ref r::us) (w::ws)
theorem Args.le {n n':Nat} {ks:List Bool} {us:List U} {ws:List W} (x:Args v h n ks us ws) (hn:n'<=n):Args v h n' ks us ws:=by
  induction x generalizing n' with
  | nil=>exact .nil
  | val r _ ih=>exact .val r (ih hn)
  | new a b c d x _=>exact .new (Nat.le_trans hn a) b c d x
def JK (ks:List Bool) (ow:List Nat) (f:FA) (p:PA):Prop:=∀ v h g n0 su we,Wd v h g->br v h n0 ow su we->Res (fun v' h' us ws=>Args v' h' h.length ks us ws) v h g (f su h) (p we g)
theorem kH:JK [] ow UL.ai ai:=fun v h g n0 su we d e=>Res.ok d .nil
theorem fy {ks:List Bool} (ha:JE rRep ow fa pa) (hr:JK ks ow fr pr):JK (false::ks) ow (UL.aa fa fr) (aa pa pr):=by
  intro v h g n0 su we d e;refine(ha v h g n0 su we d e).bind fun a x v1 h1 g1 s1 r1=>?_
  refine(hr v1 h1 g1 n0 su we s1.wd (e.up d s1)).bind fun b y v2 h2 g2 s2 r2=>?_
  exact Res.ok s2.wd (.val (r1.up (s2.le s1.wd)) (r2.le s1.hl))
theorem AL {ks:List Bool} (ha:JN ow fa pa) (hr:JK ks ow fr pr):JK (true::ks) ow (UL.aa fa fr) (aa pa pr):=by
  intro v h g n0 su we d e;refine(ha v h g n0 su we d e).bind fun a x v1 h1 g1 s1 ⟨r,o,e1,hr1,ho,ro,f⟩=>?_
  subst e1;refine(hr v1 h1 g1 n0 su we s1.wd (e.up d s1)).bind fun b y v2 h2 g2 s2 r2=>?_
  have hl:=(gEsZ.mp ho).1;exact Res.ok s2.wd (.new hr1 (f.at s2 ho) (ro.up (s2.le s1.wd)) (f.up s2 hl) (r2.le hl))
def kg:List Nat->List W->cA->Option cA
  | [],[],we=>some we
  | i::is,w::ws,we=>if i < we.length then kg is ws (we.set i (some w)) else none
  | _,_,_=>none
def lK:List Nat->List U->En->En
  | i::is,u::us,su=>lK is us (su.set i (some u))
  | _,_,su=>su
def Iz:List Nat->List Bool->List Nat->List Nat
  | i::is,k::ks,ow=>Iz is ks (if k then i::ow.filter (· != i) else ow.filter (· != i))
  | _,_,ow=>ow
theorem br.args {n0:Nat}:∀ {is:List Nat} {ks:List Bool} {us:List U} {ws:List W} {n:Nat} {ow:List Nat} {su:En} {we we':cA},br v h n0 ow su we->n0<=n->(∀ s r,s∈ow->su[s]?=some (some (U.ref r))->r < n)->Args v h n ks us ws->kg is ws we=some we'->br v h n0 (Iz is ks ow) (lK is us su) we'
  | [],ks,us,ws,n,ow,su,we,we',e,hn,hf,x,q=>by
    cases ws with
    | nil=>cases q;exact e
    | cons a b=>cases q
  | i::is,ks,us,ws,n,ow,su,we,we',e,hn,hf,x,q=>by
    cases ws with
    | nil=>cases q
    | cons w ws=>
      unfold PQ.kg at q;split at q
      . rename_i hi
        cases x with
        | val r x=>
          refine br.args (ow:=ow.filter (· != i)) (su:=su.set i _) (we:=we.set i (some w)) (e.IW r) hn (fun s r' hs h1=>?_) x q
          obtain⟨hs,hz⟩:=List.mem_filter.mp hs;have z:i≠s:=by simpa using Ne.symm (by simpa using hz)
          rw[List.getElem?_set_ne z] at h1;exact hf s r' hs h1
        | new a b c d x=>
          rename_i r o _ _;refine br.args (ow:=i::ow.filter (· != i)) (su:=su.set i _) (we:=we.set i (some w)) (e.Ke hi (Nat.le_trans hn a) b c d fun s hs h1=>?_) (by omega) (fun s r' hs h1=>?_) x q
          . have:=hf s r hs h1
            omega
          . by_cases z:i=s
            . subst z
              rw[List.getElem?_set_self (by rw[e.len];exact hi)] at h1
              cases h1
              omega
            . rw[List.getElem?_set_ne z] at h1
              rcases List.mem_cons.mp hs with rfl | hs
              . exact absurd rfl z
              . have:=hf s r' (List.mem_filter.mp hs).1 h1
                omega
      . cases q
def mG (is:List Nat) (fa:PA):PS:=fun we g=>(fa we g).st fun ws g1=>match kg is ws we with
  | some we'=>.nx we' g1
  | none=>.bad
theorem Args.len {n:Nat} {ks:List Bool} {us:List U} {ws:List W} (x:Args v h n ks us ws):us.length=ws.length:=by
  induction x with
  | nil=>rfl
  | val _ _ ih=>simp[ih]
  | new _ _ _ _ _ ih=>simp[ih]
theorem u5:∀ {is:List Nat} {ws:List W} {we we':cA},kg is ws we=some we'->ws.length=is.length
  | [],ws,we,we',q=>by
    cases ws with
    | nil=>rfl
    | cons a b=>cases q
  | i::is,ws,we,we',q=>by
    cases ws with
    | nil=>cases q
    | cons a b=>
      unfold kg at q;split at q
      . simp[u5 q]
      . cases q
theorem AR {is:List Nat} {ks:List Bool} {f:FS} (ha:JK ks ow fr pr) (hf:∀ su h,f su h=(fr su h).st su fun us h1=>if us.length=is.length then .nx (lK is us su) h1 else .bad):JS ow (Iz is ks ow) ob f (mG is pr):=by
  intro v0 h0 g0 v h g su we s e;rw[hf];refine gY.st s (ha v h g h0.length su we s.wd e) fun a b v1 h1 g1 s1 r1=>?_
  cases q:kg is b we with
  | none=>simp only[q];trivial
  | some we'=>
    simp only[q];have hl:a.length=is.length:=r1.len.trans (u5 q);rw[if_pos hl];refine⟨_,h1,v1,rfl,s.trans s1,.refl,(e.up s.wd s1).args (n:=h.length) s.hl (fun s' r hs q=>e.GU hs q) r1 q⟩
theorem lu {i j:Nat} {ks:List Bool} (ha:JK ks ow fr pr) (hw:Iz [i,j] ks ow=ow'):JS ow ow' ob (UL.lF i j fr) (mG [i,j] pr):=hw ▸ AR ha fun su h=>by
  unfold UL.lF
  congr 1
  funext us h1
  rcases us with _ | ⟨a,_ | ⟨b,_ | ⟨c,r⟩⟩⟩<;>simp[lK]
theorem xt {i j l:Nat} {ks:List Bool} (ha:JK ks ow fr pr) (hw:Iz [i,j,l] ks ow=ow'):JS ow ow' ob (UL.qw i j l fr) (mG [i,j,l] pr):=hw ▸ AR ha fun su h=>by
  unfold UL.qw
  congr 1
  funext us h1
  rcases us with _ | ⟨a,_ | ⟨b,_ | ⟨c,_ | ⟨d,r⟩⟩⟩⟩<;>simp[lK]
def cY (tg:PG) (b:PS):List W->cA->G->yo
  | [],we,g=>.nx we g
  | x::xs,we,g=>(tg x we g).st fun we1 g1=>match b we1 g1 with
    | .nx we' g'=>cY tg b xs we' g'
    | .bk we' g'=>.nx we' g'
    | r=>r
def gb (fi:PI) (tg:PG) (b:PS):PS:=fun we g=>(fi we g).st fun xs g1=>if xs.length < 1099511627776 then cY tg b xs we g1 else .bad
theorem uw {tg:FG} {pg:PG} {f:FS} {p:PS} {src:Src} {ws:List W} (hg:JG ow tg pg) (hb:JS ow ow ow f p) {v0:Vw} {h0:Hm} {g0:G} {vs:Vw} (hsrc:∀ v' h' g',Le vs v'->Wd v' h' g'->Its v' h' src ws) :
    ∀ (xs:List W) (i n:Nat) (v:Vw) (h:Hm) (g:G) (su:En) (we:cA),ws.drop i=xs->xs.length < n->Le vs v->dz v0 h0 g0 v h g->br v h h0.length ow su we->gY v0 h0 g0 v ow ob (UL.cY src tg f n i su h) (cY pg p xs we g)
  | [],i,n,v,h,g,su,we,hx,hn,l,s,e=>by
    cases n with
    | zero=>cases hn
    | succ n=>
      have:ws[i]?=none:=by
        rw[List.getElem?_eq_none_iff];have:=congrArg List.length hx;simp at this;omega
      refine⟨su,h,v,?_,s,.refl,e⟩;unfold UL.cY;rw[(hsrc v h g l s.wd).no i this]
  | x::xs,i,n,v,h,g,su,we,hx,hn,l,s,e=>by
    cases n with
    | zero=>cases hn
    | succ n=>
      have hw:ws[i]?=some x:=by
        have:=congrArg (fun l=>l[0]?) hx
        simpa using this
      have hx':ws.drop (i + 1)=xs:=by
        rw[<- List.drop_drop,hx];rfl
      obtain⟨u,hu,ru⟩:=(hsrc v h g l s.wd).it i x hw;unfold UL.cY cY;rw[hu];refine gY.st s (hg v h g h0.length su we u x s.wd e ru) fun su1 we1 v1 h1 g1 s1 r1=>?_
      have a:=hb v0 h0 g0 v1 h1 g1 su1 we1 (s.trans s1) r1;have l1:=s1.le s.wd;cases q:p we1 g1 with
      | nx we' g'=>
        rw[q] at a;obtain⟨su2,h2,v2,a1,a2,a3,a4⟩:=a;rw[a1];exact(uw hg hb hsrc xs (i + 1) n v2 h2 g' su2 we' hx' (by simp at hn;omega) ((l.trans l1).trans a3) a2 a4).le a3
      | bk we' g'=>
        rw[q] at a;obtain⟨su2,h2,v2,a1,a2⟩:=a;rw[a1];exact⟨su2,h2,v2,rfl,a2⟩
      | rt w g'=>
        rw[q] at a;obtain⟨su2,h2,v2,a1,a2⟩:=a;rw[a1];exact⟨su2,h2,v2,rfl,a2⟩
      | ex c fs g'=>
        rw[q] at a;obtain⟨us,su2,h2,v2,a1,a2⟩:=a;rw[a1];exact⟨us,su2,h2,v2,rfl,a2⟩
      | bad=>trivial
theorem kI {fi:FI} {pi:PI} {tg:FG} {pg:PG} {f:FS} {p:PS} (hi:JE qD ow fi pi) (hg:JG ow tg pg) (hb:JS ow ow ow f p):JS ow ow ob (UL.gb fi tg f) (gb pi pg p):=by
  intro v0 h0 g0 v h g su we s e;refine gY.st s (hi v h g h0.length su we s.wd e) fun src xs v1 h1 g1 s1 r1=>?_
  split
  . rename_i hl
    exact uw hg hb r1 xs 0 gZ v1 h1 g1 su we rfl (Nat.lt_of_lt_of_le hl ni) .refl (s.trans s1) (e.up s.wd s1)
  . trivial
def ik (c:PT) (b:PS):Nat->PS
  | 0=>fun _ _=>.bad
  | n + 1=>fun we g=>(c we g).st fun k g1=>if k=true then(match b we g1 with
      | .nx we' g'=>ik c b n we' g'
      | .bk we' g'=>.nx we' g'
      | r=>r) else .nx we g1
noncomputable def kY (c:PT) (b:PS):PS:=fun we g=>ik c b UL.gZ we g
theorem ux {f:FS} {p:PS} (ht:JE rEq ow t pt) (hb:JS ow ow ow f p) {v0:Vw} {h0:Hm} {g0:G}:∀ (n:Nat) (v:Vw) (h:Hm) (g:G) (su:En) (we:cA),dz v0 h0 g0 v h g->br v h h0.length ow su we->gY v0 h0 g0 v ow ob (UL.ik t f n su h) (ik pt p n we g)
  | 0,v,h,g,su,we,s,e=>trivial
  | n + 1,v,h,g,su,we,s,e=>by
    unfold UL.ik ik;refine gY.st s (ht v h g h0.length su we s.wd e) fun a b v1 h1 g1 s1 r1=>?_
    have r1:a=b:=r1;subst r1;have e1:=e.up s.wd s1;cases a with
    | false=>exact⟨su,h1,v1,rfl,s.trans s1,.refl,e1⟩
    | true=>
      rw[if_pos rfl,if_pos rfl];have a:=hb v0 h0 g0 v1 h1 g1 su we (s.trans s1) e1;cases q:p we g1 with
      | nx we' g'=>
        rw[q] at a;obtain⟨su2,h2,v2,a1,a2,a3,a4⟩:=a;rw[a1];exact(ux ht hb n v2 h2 g' su2 we' a2 a4).le a3
      | bk we' g'=>
        rw[q] at a;obtain⟨su2,h2,v2,a1,a2⟩:=a;rw[a1];exact⟨su2,h2,v2,rfl,a2⟩
      | rt w g'=>
        rw[q] at a;obtain⟨su2,h2,v2,a1,a2⟩:=a;rw[a1];exact⟨su2,h2,v2,rfl,a2⟩
      | ex c fs g'=>
        rw[q] at a;obtain⟨us,su2,h2,v2,a1,a2⟩:=a;rw[a1];exact⟨us,su2,h2,v2,rfl,a2⟩
      | bad=>trivial
theorem AS {f:FS} {p:PS} (ht:JE rEq ow t pt) (hb:JS ow ow ow f p):JS ow ow ob (UL.kY t f) (kY pt p):=fun v0 h0 g0 v h g su we s e=>ux ht hb gZ v h g su we s e
theorem br.wr {n0:Nat} {su:En} {we:cA} {i r:Nat} {o:O} (e:br v h n0 ow su we) (hi:i∈ow) (q:su[i]?=some (some (U.ref r))) (ro:dI v o w):br v (h.set r o) n0 ow su (we.set i (some w)):=by
  refine⟨by simp[e.len],fun s x hs k=>?_,fun s hs=>?_,e.dis⟩
  . have z:i≠s:=fun z=>hs (z ▸ hi)
    rw[List.getElem?_set_ne z] at k;exact e.val s x hs k
  . obtain⟨r',o',x,h1,h2,h3,h4,h5,h6⟩:=e.own s hs
    by_cases z:i=s
    . subst z
      rw[q] at h1;cases h1
      exact⟨r,o,w,q,List.getElem?_set_self (gEsZ.mp h2).1,List.getElem?_set_self (gEsZ.mp h3).1,ro,h5,h6⟩
    . have hr:r≠r':=fun y=>by subst y;exact z (e.dis i s r hi hs q h1)
      exact⟨r',o',x,h1,by rw[List.getElem?_set_ne z];exact h2,by rw[List.getElem?_set_ne hr];exact h3,h4,h5,h6⟩
def z6 (i:Nat) (fr:PA):PS:=fun we g=>match we[i]? with
  | some (some (.lst _))=>(fr we g).st fun ws g1=>(match we[i]?,ws with
    | some (some (.lst xs)),[w]=>if xs.length < 16777216 then .nx (we.set i (some (.lst (xs++[w])))) g1 else .bad
    | _,_=>.bad)
  | _=>.bad
theorem xP {n0:Nat} {su:En} {we:cA} {i:Nat} {xs:List W} (e:br v h n0 ow su we) (hi:i∈ow) (q:we[i]?=some (some (.lst xs))):∃ r us,su[i]?=some (some (.ref r))/\h[r]?=some (.lst us)/\aO v us xs/\mq v r/\n0<=r:=by
  obtain⟨r,o,x,h1,h2,h3,h4,h5,h6⟩:=e.own i hi;rw[q] at h2;cases h2
  cases o with
  | lst us=>exact⟨r,us,h1,h3,h4,h5,h6⟩
  | _=>exact h4.elim
theorem Gi {i:Nat} (hi:i∈ow) (hr:JE jf ow fr pr):JS ow ow ob (UL.fu (UL.dy .list UL.iS (UL.ah i) fr)) (z6 i pr):=by
  intro v0 h0 g0 v h g su we s e;unfold z6;split
  . rename_i xs q
    obtain⟨r,us,k1,k2,k3,k4,k5⟩:=xP e hi q
    have hu:UL.fu (UL.dy .list UL.iS (UL.ah i) fr) su h=(fr su h).st su fun ws h1=>(bZ (UL.iS (.ref r) ws h1)).st su fun _ h2=>.nx su h2:=by
      unfold UL.fu UL.dy UL.ah;rw[k1];simp only[Rs.bind,UL.Fq,k2,if_true];cases fr su h<;>rfl
    rw[hu];refine gY.st s (hr v h g h0.length su we s.wd e) fun a b v1 h1 g1 s1 r1=>?_
    rw[q];rcases b with _ | ⟨w,_ | ⟨w2,b⟩⟩
    . trivial
    . dsimp only
      cases r1 with
      | cons r1 r2=>
        cases r2
        split
        . rename_i hl
          have f1:=k4.up s1 (gEsZ.mp k2).1;have e1:=k4.at s1 k2;have en:=e.up s.wd s1;have ro:dI v1 (.lst (us++[_])) (.lst (xs++[w])):=(k3.up (s1.le s.wd)).app (.cons r1 .nil);refine⟨su,_,v1,?_,(s.trans s1).put k5 f1,.refl,en.wr hi k1 ro⟩;simp only[UL.iS,e1,k3.len,hl,if_true];rfl
        . trivial
    . trivial
  . trivial
def vR (i:Nat) (f:PE):PS:=fun we g=>match we[i]? with
  | some (some (.lst _))=>(f we g).st fun w g1=>(match we[i]?,w with
    | some (some (.lst xs)),.lst ys=>if xs.length + ys.length<=16777216 then .nx (we.set i (some (.lst (xs++ys)))) g1 else .bad
    | _,_=>.bad)
  | _=>.bad
theorem AQ {i:Nat} (hi:i∈ow) (ha:JE rRep ow fa pa):JS ow ow ob (UL.fu (UL.dy .list UL.hZ (UL.ah i) (UL.aa fa UL.ai))) (vR i pa):=by
  intro v0 h0 g0 v h g su we s e;unfold vR;split
  . rename_i xs q
    obtain⟨r,us,k1,k2,k3,k4,k5⟩:=xP e hi q
    have hu:UL.fu (UL.dy .list UL.hZ (UL.ah i) (UL.aa fa UL.ai)) su h=(fa su h).st su fun ws h1=>(bZ (UL.hZ (.ref r) [ws] h1)).st su fun _ h2=>.nx su h2:=by
      unfold UL.fu UL.dy UL.ah UL.aa UL.ai;rw[k1];simp only[Rs.bind,UL.Fq,k2,if_true];cases fa su h<;>rfl
    rw[hu];refine gY.st s (ha v h g h0.length su we s.wd e) fun a b v1 h1 g1 s1 r1=>?_
    rw[q];cases b with
    | lst ys=>
      dsimp only;obtain⟨j,us',rfl,q2,rs⟩:=(a7.rep r1).lst s1.wd;split
      . rename_i hl
        have f1:=k4.up s1 (gEsZ.mp k2).1;have e1:=k4.at s1 k2;have en:=e.up s.wd s1;have ro:dI v1 (.lst (us++us')) (.lst (xs++ys)):=(k3.up (s1.le s.wd)).app rs;refine⟨su,_,v1,?_,(s.trans s1).put k5 f1,.refl,en.wr hi k1 ro⟩;simp only[UL.hZ,e1,q2,k3.len,rs.len,hl,if_true];rfl
      . trivial
    | _=>trivial
  . trivial
def ub:ka:=fun a b _=>match a,b with
  | .int i,.int j=>some (.int (i + j))
  | .str x,.str y=>if x.length + y.length<=16777216 then some (.str (x++y)) else none
  | _,_=>none
theorem Dz:JO UL.qf ub:=by
  intro v h g u u' w w' z d r r' e;unfold ub at e;split at e
  . cases e
    rw[r.cG d,r'.cG d];exact⟨_,h,v,rfl,.refl d,.int _⟩
  . split at e
    . rename_i hl
      cases e
      rw[r.c5 d,r'.c5 d];exact⟨_,h,v,by simp only[UL.qf,hl,if_true],.refl d,.str _⟩
    . cases e
  . cases e
def mD (i:Nat) (o:ka) (f:PE):PS:=fun we g=>match we[i]? with
  | some (some w)=>(f we g).st fun x g1=>(match o w x g1 with
    | some z=>.nx (we.set i (some z)) g1
    | none=>.bad)
  | _=>.bad
theorem Gj {i:Nat} {o:UL.G2} {po:ka} (hi:i ∉ ow) (ho:JO o po) (ha:JE dq ow fa pa):JS ow ow ob (UL.mD i o fa) (mD i po pa):=by
  intro v0 h0 g0 v h g su we s e;unfold mD;split
  . rename_i w q
    obtain⟨u,hu,ru⟩:=e.val i w hi q;unfold UL.mD;rw[hu];dsimp only;refine gY.st s (ha v h g h0.length su we s.wd e) fun a b v1 h1 g1 s1 r1=>?_
    cases q2:po w b g1 with
    | none=>trivial
    | some z=>
      obtain⟨uz,h2,v2,x1,x2,x3⟩:=ho v1 h1 g1 u a w b z s1.wd (.rep (ru.up (s1.le s.wd))) r1 q2;dsimp only;rw[x1];exact⟨_,h2,v2,rfl,(s.trans s1).trans x2,x2.le s1.wd,((e.up s.wd s1).up s1.wd x2).set hi x3⟩
  . trivial
def cO (c f:Str) (fa:PA):PS:=fun we g=>(fa we g).st fun ws g1=>match ws with
  | [w]=>.ex c [(f,w)] g1
  | _=>.bad
theorem gM {c f:Str} (hr:JE jf ow fr pr):JS ow ow' ob (UL.cO c f fr) (cO c f pr):=by
  intro v0 h0 g0 v h g su we s e;refine gY.st s (hr v h g h0.length su we s.wd e) fun a b v1 h1 g1 s1 r1=>?_
  rcases b with _ | ⟨w,_ | ⟨w2,b⟩⟩
  . trivial
  . cases r1 with
    | cons r1 r2=>
      cases r2
      exact⟨[(f,_)],su,h1,v1,rfl,s.trans s1,rfl,.cons r1 .nil⟩
  . trivial
def dW (n np:Nat) (body:PS):jS:=fun ws g=>if ws.length=np then(match body (ws.map some++List.replicate (n - np) none) g with
  | .nx _ g'=>.ok .non g'
  | .rt w g'=>.ok w g'
  | .ex c fs g'=>.ex c fs g'
  | _=>.bad) else .bad
theorem br.start (d:Wd v h g) {us:List U} {ws:List W} (r:aO v us ws) (k:Nat):br v h h.length [] (us.map some++List.replicate k none) (ws.map some++List.replicate k none):=by
  refine⟨by simp[r.len],fun s w _ q=>?_,fun s hs=>(nomatch hs),fun s s' r hs=>(nomatch hs)⟩
  by_cases hs:s < ws.length
  . rw[List.getElem?_append_left (by simpa using hs),List.getElem?_map] at q
    obtain⟨x,hx,e⟩:=mOsZ.mp q;cases e
    obtain⟨u,hu,ru⟩:=r.get hx;exact⟨u,by rw[List.getElem?_append_left (by simpa[r.len] using hs),List.getElem?_map,hu];rfl,ru⟩
  . rw[List.getElem?_append_right (by simpa using hs)] at q
    have:=List.mem_of_getElem? q;simp at this
theorem dk {n np:Nat} {f:FS} {p:PS} (x:JS [] ow' [] f p):JF (UL.dW n np f) (dW n np p):=by
  intro v h g us ws d r;unfold UL.dW dW;rw[r.len];split
  . have a:=x v h g v h g _ _ (.refl d) (br.start d r (n - np))
    cases q:p (ws.map some++List.replicate (n - np) none) g with
    | nx we' g'=>
      rw[q] at a;obtain⟨su2,h2,v2,a1,a2,a3,a4⟩:=a;rw[a1];exact⟨.non,h2,v2,rfl,a2,.non⟩
    | bk we' g'=>trivial
    | rt w g'=>
      rw[q] at a;obtain⟨su2,h2,v2,a1,a2⟩:=a;rw[a1];exact⟨su2,h2,v2,rfl,a2⟩
    | ex c fs g'=>
      rw[q] at a;obtain⟨us,su2,h2,v2,a1,a2⟩:=a;rw[a1];exact⟨us,h2,v2,rfl,a2⟩
    | bad=>trivial
  . trivial
end
end PQ

namespace PQ
open PySem UL
section
variable {v v' v'':Vw} {h h' h'':Hm} {g g' g'':G} {ow ow' ob:List Nat}
noncomputable abbrev ER (i j:Nat):FE:=UL.bj (UL.dZ (UL.ah i)) (UL.aG j) UL.b9 (UL.aS UL.xC (UL.aa (UL.ah j) UL.ai)) [j]
abbrev Bb:FA:=UL.aa (UL.cE (.str [101,97,99,104])) (UL.aa (UL.cE (.str [112,105,101,99,101])) (UL.aa (UL.cE (.str [108,97,115,116])) UL.ai))
noncomputable abbrev nearU (D R:Fn):FS:=UL.aA (UL.bf 3 (ER 1 6))
  (UL.aA (UL.bf 4 (UL.aM UL.ixN (UL.ah 3) (UL.ah 2)))
  (UL.aA (UL.bf 5 (UL.aC D (UL.aa (UL.ah 0) (UL.aa (UL.aS UL.hB (UL.aa (UL.ah 4) UL.ai)) UL.ai))))
  (UL.aA (UL.dh (UL.aC R (UL.aa (UL.ah 0) (UL.aa (UL.ah 5) (UL.aa (UL.aM UL.ixN (UL.aP Bb) (UL.ah 2)) (UL.aa (UL.aS UL.hB (UL.aa (UL.ah 4) UL.ai)) UL.ai))))) (UL.vg (UL.ah 4) (UL.ah 5)))
  (UL.retS (UL.ah 3)))))
end
end PQ

namespace PQ
open PySem UL
section
variable {v v' v'':Vw} {h h' h'':Hm} {g g' g'':G} {ow:List Nat}
def IG:W->Option W
  | .tup ws=>some (.tup ws.reverse)
  | .lst ws=>some (.lst ws.reverse)
  | _=>none
end
end PQ

namespace PQ
open PySem UL
section
variable {v v' v'':Vw} {h h' h'':Hm} {g g' g'':G} {ow ow' ob:List Nat}
noncomputable abbrev rB:FE:=UL.aM UL.ixN (UL.ah 3) (UL.ah 2)
noncomputable abbrev J5 (R:Fn):FE:=UL.aC R (UL.aa (UL.ah 0) (UL.aa (UL.ah 4) (UL.aa (UL.aM UL.ixN (UL.aP Bb) (UL.ah 2)) (UL.aa (UL.aS UL.hB (UL.aa rB UL.ai)) UL.ai))))
noncomputable abbrev nearU2 (D R:Fn):FS:=UL.aA (UL.bf 3 (ER 1 5))
  (UL.aA (UL.bf 4 (UL.aC D (UL.aa (UL.ah 0) (UL.aa (UL.aS UL.hB (UL.aa rB UL.ai)) UL.ai))))
  (UL.aA (UL.dh (J5 R) (UL.vg rB (UL.ah 4)))
  (UL.retS (UL.ah 3))))
end
end PQ

namespace PQ
open PySem UL
section
variable {v v' v'':Vw} {h h' h'':Hm} {g g' g'':G}
def KP:ka:=fun a b g=>match a,b with
  | .cq _,.tup _=>some (.bl true)
  | .lst _,.tup _=>some (.bl true)
  | .tup (_::_),.tup []=>some (.bl true)
  | a,b=>wg a b g
end
end PQ

namespace PQ
open PySem UL
variable {α β:Type}
def oP (r:PR α) (Q:α->G->Prop):Prop:=match r with
  | .ok a g=>Q a g
  | _=>False
structure aQ (r:PR α) (Q:α->G->Prop):Prop where
  out:oP r Q
theorem wq {r:PR α} {Q:α->G->Prop}:aQ r Q=oP r Q:=propext ⟨fun h=>h.out,fun h=>⟨h⟩⟩
structure Es where
  nx:cA->G->Prop
  rt:W->G->Prop:=fun _ _=>False
  bk:cA->G->Prop:=fun _ _=>False
def oS (r:yo) (D:Es):Prop:=match r with
  | .nx we g=>D.nx we g
  | .rt w g=>D.rt w g
  | .bk we g=>D.bk we g
  | _=>False
structure hU (r:yo) (D:Es):Prop where
  out:oS r D
theorem ou {r:yo} {D:Es}:hU r D=oS r D:=propext ⟨fun h=>h.out,fun h=>⟨h⟩⟩
@[simp] theorem md {we:cA} {g:G} {D:Es}:hU (.nx we g) D=D.nx we g:=ou
@[simp] theorem sr {w:W} {g:G} {D:Es}:hU (.rt w g) D=D.rt w g:=ou
@[simp] theorem BI {we:cA} {g:G} {D:Es}:hU (.bk we g) D=D.bk we g:=ou
@[simp] theorem BJ {c:Str} {fs:List (Str × W)} {g:G} {D:Es}:hU (.ex c fs g) D=False:=ou
@[simp] theorem BH {D:Es}:hU .bad D=False:=ou
@[simp] theorem cH {a:α} {g:G} {Q:α->G->Prop}:aQ (.ok a g) Q=Q a g:=wq
@[simp] theorem Bt {Q:α->G->Prop}:aQ .bad Q=False:=wq
@[simp] theorem Bv {c:Str} {fs:List (Str × W)} {g:G} {Q:α->G->Prop}:aQ (.ex c fs g) Q=False:=wq
theorem aQ.mono {r:PR α} {Q Q':α->G->Prop} (h:aQ r Q) (k:∀ a g,Q a g->Q' a g):aQ r Q':=by
  cases r with
  | ok a h'=>rw[cH] at h ⊢;exact k _ _ h
  | ex=>rw[Bv] at h;exact h.elim
  | bad=>rw[Bt] at h;exact h.elim
theorem xJ {r:PR α} {Q:α->G->Prop}:aQ r Q ↔ ∃ a g,r=.ok a g/\Q a g:=by
  cases r with
  | ok a h=>rw[cH];exact⟨fun p=>⟨a,h,rfl,p⟩,fun⟨a',h',e,p⟩=>by cases e;exact p⟩
  | ex=>rw[Bv];exact⟨fun p=>p.elim,fun⟨a',h',e,p⟩=>by cases e⟩
  | bad=>rw[Bt];exact⟨fun p=>p.elim,fun⟨a',h',e,p⟩=>by cases e⟩
theorem hU.mono {r:yo} {D D':Es} (h:hU r D) (h1:∀ we g,D.nx we g->D'.nx we g) (h2:∀ w g,D.rt w g->D'.rt w g) (h3:∀ we g,D.bk we g->D'.bk we g):hU r D':=by
  have h:=h.out;refine⟨?_⟩;cases r with
  | nx=>exact h1 _ _ h
  | rt=>exact h2 _ _ h
  | bk=>exact h3 _ _ h
  | ex=>exact h
  | bad=>exact h
def gv (o:Option α) (Q:α->Prop):Prop:=match o with
  | some a=>Q a
  | none=>False
@[simp] theorem aY {a:α} {Q:α->Prop}:gv (some a) Q=Q a:=rfl
@[simp] theorem BM {Q:α->Prop}:gv none Q=False:=rfl
def mF (u:W) (Q:Bool->Prop):Prop:=match u with
  | .bl b=>Q b
  | _=>False
@[simp] theorem sv {b:Bool} {Q:Bool->Prop}:mF (.bl b) Q=Q b:=rfl
def mv (u:W) (Q:Int->Prop):Prop:=match u with
  | .int b=>Q b
  | _=>False
@[simp] theorem sx {b:Int} {Q:Int->Prop}:mv (.int b) Q=Q b:=rfl
def pE (u:W) (Q:List Nat->Prop):Prop:=match u with
  | .str b=>Q b
  | _=>False
@[simp] theorem xO {b:List Nat} {Q:List Nat->Prop}:pE (.str b) Q=Q b:=rfl
section
variable {we:cA} {g:G} {Q:W->G->Prop} {QT:Bool->G->Prop} {QA:List W->G->Prop} {D:Es} {f f':PS} {fa fb fc fe:PE} {t t':PT} {fr fk:PA} {i k:Nat} {w:W}
@[simp] theorem aN {r:PR α} {k:α->G->PR β} {Q:β->G->Prop}:aQ (r.bind k) Q=aQ r fun a g=>aQ (k a g) Q:=by cases r<;>simp[PR.bind]
@[simp] theorem eX {r:PR α} {Q:α->G->Prop}:aQ (quiet r) Q=aQ r Q:=by cases r<;>simp[quiet]
@[simp] theorem jE {o:Option W}:aQ (lx o g) Q=gv o fun w=>Q w g:=by cases o<;>simp[lx]
theorem fO {r:PR α} {k:α->G->yo}:hU (r.st k) D=aQ r fun a g=>hU (k a g) D:=by cases r<;>simp[PR.st]
@[simp] theorem BL {c:Prop} [Decidable c] {a:α} {Q:α->Prop}:gv (if c then some a else none) Q=(c/\Q a):=by split<;>simp[*]
@[simp] theorem onO_map {o:Option α} {f:α->β} {Q:β->Prop}:gv (o.map f) Q=gv o fun a=>Q (f a):=by cases o<;>simp
@[simp] theorem jD:aQ (cE w we g) Q=Q w g:=by simp[cE]
@[simp] theorem bR:aQ (ah i we g) Q=gv we[i]? fun o=>gv o fun w=>Q w g:=by
  unfold ah;cases we[i]? with
  | none=>simp
  | some o=>cases o<;>simp
@[simp] theorem gH {o:ka}:aQ (aM o fa fb we g) Q=aQ (fa we g) fun a g1=>aQ (fb we g1) fun b g2=>gv (o a b g2) fun w=>Q w g2:=by
  unfold aM;simp only[aN,jE]
@[simp] theorem mU:aQ (cb fa we g) QT=aQ (fa we g) fun u g1=>mF u fun b=>QT b g1:=by
  unfold cb;rw[aN]
  congr 1
  funext u g1
  cases u<;>simp[mF]
@[simp] theorem uH:aQ (eV fa we g) QT=aQ (fa we g) fun u g1=>gv (i9 u g1) fun k=>QT k g1:=by
  unfold eV;rw[aN]
  congr 1
  funext u g1
  cases i9 u g1<;>simp
@[simp] theorem By:aQ (hW t we g) QT=aQ (t we g) fun k g1=>QT (!k) g1:=by unfold hW;rw[aN];simp
@[simp] theorem okP_andT:aQ (kc t t' we g) QT=aQ (t we g) fun k g1=>if k=true then aQ (t' we g1) QT else QT false g1:=by
  unfold kc;rw[aN]
  congr 1
  funext k g1
  cases k<;>simp
@[simp] theorem okP_orT:aQ (uK t t' we g) QT=aQ (t we g) fun k g1=>if k=true then QT true g1 else aQ (t' we g1) QT:=by
  unfold uK;rw[aN]
  congr 1
  funext k g1
  cases k<;>simp
@[simp] theorem okP_andE:aQ (tq fa fb we g) Q=aQ (fa we g) fun u g1=>gv (i9 u g1) fun k=>if k=true then aQ (fb we g1) Q else Q u g1:=by
  unfold tq;rw[aN]
  congr 1
  funext u g1
  cases i9 u g1 with
  | none=>simp
  | some k=>cases k<;>simp
@[simp] theorem okP_orE:aQ (CJ fa fb we g) Q=aQ (fa we g) fun u g1=>gv (i9 u g1) fun k=>if k=true then Q u g1 else aQ (fb we g1) Q:=by
  unfold CJ;rw[aN]
  congr 1
  funext u g1
  cases i9 u g1 with
  | none=>simp
  | some k=>cases k<;>simp
@[simp] theorem DO:aQ (pC t fa fb we g) Q=aQ (t we g) fun k g1=>if k=true then aQ (fa we g1) Q else aQ (fb we g1) Q:=by
  unfold pC;rw[aN]
  congr 1
  funext k g1
  cases k<;>simp
@[simp] theorem okP_negE:aQ (kd fa we g) Q=aQ (fa we g) fun u g1=>mv u fun i=>Q (.int (-i)) g1:=by
  unfold kd;rw[aN]
  congr 1
  funext u g1
  cases u<;>simp[mv]
@[simp] theorem okP_chainE {o o':ka}:aQ (jn o o' fa fb fc we g) Q=aQ (fa we g) fun a g1=>aQ (fb we g1) fun b g2=>gv (o a b g2) fun r=>mF r fun k=>if k=true then aQ (fc we g2) fun c g4=>gv (o' b c g4) fun w=>Q w g4 else Q (.bl false) g2:=by
  unfold jn;simp only[aN,jE]
  congr 1
  funext u g1
  congr 1
  funext z g2
  congr 1
  funext r
  cases r with
  | bl b=>cases b<;>simp
  | _=>simp[mF]
@[simp] theorem dc:aQ (ai we g) QA=QA [] g:=by simp[ai]
@[simp] theorem bA:aQ (aa fe fr we g) QA=aQ (fe we g) fun u g1=>aQ (fr we g1) fun us g2=>QA (u::us) g2:=by
  unfold aa;simp only[aN,cH]
@[simp] theorem okP_starA:aQ (fG fe fr we g) QA=aQ (fe we g) fun u g1=>gv (jO u) fun us=>aQ (fr we g1) fun ws g2=>QA (us++ws) g2:=by
  unfold fG;rw[aN]
  congr 1
  funext u g1
  cases jO u with
  | none=>simp
  | some us=>dsimp only;rw[aN];simp
@[simp] theorem dg {c:Prop} [Decidable c] {r:PR α} {Q:α->G->Prop}:aQ (if c then r else .bad) Q=(c/\aQ r Q):=by split<;>simp[*]
@[simp] theorem BB:aQ (cU fr we g) Q=aQ (fr we g) fun us g1=>us.length<=16777216/\Q (.tup us) g1:=by
  unfold cU;simp only[aN,dg,cH]
@[simp] theorem Bw:aQ (aP fr we g) Q=aQ (fr we g) fun us g1=>us.length<=16777216/\Q (.lst us) g1:=by
  unfold aP pM;simp only[aN,dg,cH]
@[simp] theorem gN {F:jS}:aQ (aC F fr we g) Q=aQ (fr we g) fun us g1=>aQ (F us g1) Q:=by unfold aC;rw[aN]
@[simp] theorem gc {b:PB}:aQ (aS b fr we g) Q=aQ (fr we g) fun us g1=>gv (b us g1) fun w=>Q w g1:=by unfold aS;simp only[aN,jE]
@[simp] theorem om {T:MT} {m:PM}:aQ (dy T m fe fr we g) Q=aQ (fe we g) fun u g1=>Ht T u=true/\aQ (fr we g1) fun us g2=>gv (m u us g2) fun w=>Q w g2:=by
  unfold dy;simp only[aN,dg,jE]
@[simp] theorem DS {lo hi:PP}:aQ (oW fe lo hi we g) Q=aQ (fe we g) fun u g1=>aQ (lo we g1) fun l g2=>aQ (hi we g2) fun k g3=>gv (Hc u l k) fun w=>Q w g3:=by unfold oW;simp only[aN,jE]
@[simp] theorem DR {Q:Option Int->G->Prop}:aQ (jd we g) Q=Q none g:=by simp[jd]
@[simp] theorem yY {Q:Option Int->G->Prop}:aQ (dR fe we g) Q=aQ (fe we g) fun u g1=>mv u fun i=>Q (some i) g1:=by
  unfold dR;rw[aN]
  congr 1
  funext u g1
  cases u<;>simp[mv]
@[simp] theorem okP_tabE {tbl:List (List Nat × Int)}:aQ (o7 tbl fe we g) Q=aQ (fe we g) fun u g1=>pE u fun z=>gv (tbl.lookup z) fun i=>Q (.int i) g1:=by
  unfold o7;rw[aN]
  congr 1
  funext u g1
  cases u with
  | str z=>simp only[xO];cases tbl.lookup z<;>simp
  | _=>simp[pE]
@[simp] theorem yU {tab:List (Str × PAT)} {a:Str}:aQ (gA tab a fe we g) Q=aQ (fe we g) fun u g1=>gv (vU u g1) fun p=>gv (tab.lookup p.1) fun at_=>match at_ with
    | .fld=>gv (p.2.lookup a) fun x=>Q x g1
    | .prop P=>aQ (P [u] g1) Q:=by
  unfold gA;rw[aN]
  congr 1
  funext u g1
  cases vU u g1 with
  | none=>simp
  | some p=>
    obtain⟨c,fs⟩:=p;simp only[aY];cases tab.lookup c with
    | none=>simp
    | some x=>
      cases x with
      | fld=>simp only[aY];cases fs.lookup a<;>simp
      | prop P=>simp
theorem DQ {c:Str} {q:PR W} (h:aQ q fun u g2=>u=.non/\∃ fs,g2=g++[.ins c fs]/\kK g.length fs=true/\Q (.ins c fs) g):aQ (HD c g q) Q:=by
  obtain⟨u,g2,rfl,rfl,fs,rfl,n,x⟩:=xJ.mp h;unfold HD;simp only[List.getElem?_append_right (Nat.le_refl _),Nat.sub_self,gzZ];rw[if_pos ⟨trivial,n⟩,cH];exact x
theorem yX {c:Str} {F:jS} (h:aQ (fr we g) fun us g1=>aQ (F (.d6 g1.length::us) (g1++[.ins c []])) fun u g2=>u=.non/\∃ fs,g2=g1++[.ins c fs]/\kK g1.length fs=true/\Q (.ins c fs) g1):aQ (uC c F fr we g) Q:=by
  unfold uC;rw[aN];exact h.mono fun us g1 x=>DQ x
@[simp] theorem uI:aQ (b9 we g) QT=QT true g:=by simp[b9]
@[simp] theorem BK:hU (aH we g) D=D.nx we g:=by simp[aH]
theorem ax:hU (aA f f' we g) D=hU (f we g) { D with nx:=fun we g=>hU (f' we g) D }:=by
  unfold aA;cases f we g<;>simp
@[simp] theorem okS_ret:hU (retS fe we g) D=aQ (fe we g) fun u g=>D.rt u g:=by unfold retS;rw[fO];simp
@[simp] theorem okS_expr:hU (fu fe we g) D=aQ (fe we g) fun _ g=>D.nx we g:=by unfold fu;rw[fO];simp
@[simp] theorem GO:hU (cJ t f f' we g) D=aQ (t we g) fun k g1=>if k=true then hU (f we g1) D else hU (f' we g1) D:=by
  unfold cJ;rw[fO]
  congr 1
  funext k g1
  cases k<;>simp
@[simp] theorem j5:hU (bf i fe we g) D=aQ (fe we g) fun u g1=>D.nx (we.set i (some u)) g1:=by unfold bf;rw[fO];simp
@[simp] theorem y9 {c:Prop} [Decidable c] {r:yo}:hU (if c then r else .bad) D=(c/\hU r D):=by split<;>simp[*]
@[simp] theorem j1 {tg:PG}:hU (dh fe tg we g) D=aQ (fe we g) fun u g1=>aQ (tg u we g1) fun we' g2=>D.nx we' g2:=by unfold dh;rw[fO];simp[fO]
@[simp] theorem okS_par {is:List Nat}:hU (mG is fr we g) D=aQ (fr we g) fun ws g1=>gv (kg is ws we) fun we'=>D.nx we' g1:=by
  unfold mG;rw[fO]
  congr 1
  funext ws g1
  cases kg is ws we<;>simp
@[simp] theorem okS_aug {o:ka}:hU (mD i o fe we g) D=gv we[i]? fun x=>gv x fun u=>aQ (fe we g) fun w g1=>gv (o u w g1) fun z=>D.nx (we.set i (some z)) g1:=by
  unfold mD;cases we[i]? with
  | none=>simp
  | some x=>
    cases x with
    | none=>simp
    | some u=>
      simp only[aY];rw[fO]
      congr 1
      funext w g1
      cases o u w g1<;>simp
theorem xN {xs:List W} (h:aQ (fr we g) fun ws g1=>∃ w,ws=[w]/\xs.length < 16777216/\D.nx (we.set i (some (.lst (xs++[w])))) g1) (e:we[i]?=some (some (.lst xs))):hU (z6 i fr we g) D:=by
  unfold z6;rw[e];dsimp only;rw[fO];refine h.mono fun ws g1 ⟨w,e1,hl,d⟩=>?_
  subst e1;simp[hl,d]
theorem DU {xs:List W} (h:aQ (fe we g) fun w g1=>∃ ys,w=.lst ys/\xs.length + ys.length<=16777216/\D.nx (we.set i (some (.lst (xs++ys)))) g1) (e:we[i]?=some (some (.lst xs))):hU (vR i fe we g) D:=by
  unfold vR;rw[e];dsimp only;rw[fO];refine h.mono fun ws g1 ⟨w,e1,hl,d⟩=>?_
  subst e1;simp[hl,d]
@[simp] theorem iL {Q:cA->G->Prop}:aQ (aG i w we g) Q=Q (we.set i (some w)) g:=by simp[aG]
@[simp] theorem Bx {Q:cA->G->Prop}:aQ (cC [] we g) Q=Q we g:=by simp[cC]
@[simp] theorem yW {q:PG} {qs:PGs} {us:List W} {Q:cA->G->Prop}:aQ (a9 q qs (w::us) we g) Q=aQ (q w we g) fun we' g'=>aQ (qs us we' g') Q:=by
  show aQ ((q w we g).bind fun we' g'=>qs us we' g') Q=_
  rw[aN]
@[simp] theorem BC {n:Nat} {qs:PGs} {Q:cA->G->Prop}:aQ (eY n qs w we g) Q=gv (jO w) fun us=>us.length=n/\aQ (qs us we g) Q:=by
  unfold eY;cases jO w with
  | none=>simp
  | some us=>simp
theorem BA {Q:cA->G->Prop}:aQ (zG fa fb w we g) Q=aQ (fa we g) fun o g1=>aQ (fb we g1) fun j g2=>aQ (match o,j with
    | .d6 k,.int n=>(match g2[k]? with
      | some (.lst ws)=>(match L2.ixN ws.length n with
        | some j=>.ok we (g2.set k (.lst (ws.set j w)))
        | none=>.bad)
      | _=>.bad)
    | _,_=>.bad) Q:=by
  unfold zG;simp only[aN,eX]
  all_goals rfl
@[simp] theorem okP_fn {n np:Nat} {us:List W}:aQ (dW n np f us g) Q=(us.length=np/\hU (f (us.map some++List.replicate (n - np) none) g) { nx:=fun _ g=>Q .non g,rt:=Q }):=by
  unfold dW;split
  . rename_i hl
    cases f (us.map some++List.replicate (n - np) none) g<;>simp[hl]
  . rename_i hl
    simp[hl]
@[simp] theorem jH:aQ (dZ fe we g) QA=aQ (fe we g) fun u g1=>gv (fL u) fun ws=>QA ws g1:=by
  unfold dZ;rw[aN]
  congr 1
  funext u g1
  cases fL u<;>simp
theorem jG (h:aQ (fr we g) fun us g1=>∃ j:Int,us=[.int j]/\(-(2 ^ 62)<=j/\j < 2 ^ 62)/\QA (cI 0 j.toNat) g1):aQ (fB fr we g) QA:=by
  unfold fB;rw[aN];refine h.mono fun us g1 ⟨j,e,c,q⟩=>?_
  subst e;rw[dg,cH];exact⟨c,q⟩
theorem Bz (h:aQ (fr we g) fun us g1=>∃ i j:Int,us=[.int i,.int j]/\(-(2 ^ 62)<=i/\i < 2 ^ 62/\-(2 ^ 62)<=j/\j < 2 ^ 62)/\QA (cI i (j - i).toNat) g1):aQ (lH fr we g) QA:=by
  unfold lH;rw[aN];refine h.mono fun us g1 ⟨i,j,e,c,q⟩=>?_
  subst e;rw[dg,cH];exact⟨c,q⟩
@[simp] theorem okP_enum:aQ (jc fr we g) QA=aQ (fr we g) fun us g1=>aQ (match us with
  | [.lst ws]=>.ok (gD ws) g1
  | [.tup ws]=>.ok (gD ws) g1
  | _=>.bad) QA:=by
  unfold jc;rw[aN]
  all_goals rfl
@[simp] theorem okP_zip:aQ (Hy fr we g) QA=aQ (fr we g) fun us g1=>aQ (match us with
  | [.tup ws,.tup xs]=>.ok (EK ws xs) g1
  | [.tup ws,.lst xs]=>.ok (EK ws xs) g1
  | _=>.bad) QA:=by
  unfold Hy;rw[aN]
  all_goals rfl
theorem qu {tg:PG} {b:PS} (Iv:List W->cA->G->Prop) (hstep:∀ x xs we g,Iv (x::xs) we g->aQ (tg x we g) fun we1 g1=>hU (b we1 g1) { nx:=Iv xs,rt:=D.rt,bk:=D.nx }) (hend:∀ we g,Iv [] we g->D.nx we g):∀ (xs:List W) (we:cA) (g:G),Iv xs we g->hU (cY tg b xs we g) D
  | [],we,g,h=>by rw[cY,md];exact hend we g h
  | x::xs,we,g,h=>by
    rw[cY,fO];refine(hstep x xs we g h).mono fun we1 g1 k=>?_
    cases e:b we1 g1 with
    | nx we' g'=>rw[e,md] at k;exact qu Iv hstep hend xs we' g' k
    | bk we' g'=>rw[e,BI] at k;dsimp only;rw[md];exact k
    | rt w g'=>rw[e,sr] at k;dsimp only;rw[sr];exact k
    | ex=>rw[e,BJ] at k;exact k.elim
    | bad=>rw[e,BH] at k;exact k.elim
theorem lE {fi:PI} {tg:PG} {b:PS} (h:aQ (fi we g) fun xs g1=>xs.length < 1099511627776/\∃ Iv:List W->cA->G->Prop,Iv xs we g1/\(∀ x xs we g,Iv (x::xs) we g->aQ (tg x we g) fun we1 g1=>hU (b we1 g1) { nx:=Iv xs,rt:=D.rt,bk:=D.nx })/\∀ we g,Iv [] we g->D.nx we g):hU (gb fi tg b we g) D:=by
  unfold gb;rw[fO];refine h.mono fun xs g1 ⟨hl,Iv,a,b',c⟩=>?_
  rw[y9];exact⟨hl,qu Iv b' c xs we g1 a⟩
theorem oy {fi:PI} {tg:PG} {b:PS} (h:aQ (fi we g) fun xs g1=>xs.length < 1099511627776/\∃ Iv:Nat->cA->G->Prop,Iv 0 we g1/\(∀ k (hk:k < xs.length) we g,Iv k we g->aQ (tg xs[k] we g) fun we1 g1=>hU (b we1 g1) { nx:=Iv (k + 1),rt:=D.rt,bk:=D.nx })/\∀ we g,Iv xs.length we g->D.nx we g):hU (gb fi tg b we g) D:=by
  refine lE (h.mono fun xs g1 ⟨hl,Iv,a,b',c⟩=>?_)
  refine⟨hl,fun ys we g=>∃ k,k<=xs.length/\ys=xs.drop k/\Iv k we g,⟨0,Nat.zero_le _,rfl,a⟩,?_,?_⟩
  . rintro x ys we g ⟨k,hk,e,iv⟩
    have hk2:k < xs.length:=by
      have:=congrArg List.length e;simp only[List.length_cons,List.length_drop] at this;omega
    rw[List.drop_eq_getElem_cons hk2] at e;cases e
    refine(b' k hk2 we g iv).mono fun we1 g1 o=>?_
    exact o.mono (fun we g i=>⟨k + 1,hk2,rfl,i⟩) (fun _ _ i=>i) (fun _ _ i=>i)
  . rintro we g ⟨k,hk,e,iv⟩
    have hk2:k=xs.length:=by
      have:=congrArg List.length e;simp only[List.length_nil,List.length_drop] at this;omega
    subst hk2;exact c we g iv
theorem za {c:PT} {b:PS} (Iv:Nat->cA->G->Prop) (hstep:∀ n we g,Iv n we g->aQ (c we g) fun k g1=>if k=true then hU (b we g1) { nx:=fun we g=>∃ m,m < n/\Iv m we g,rt:=D.rt,bk:=D.nx } else D.nx we g1) :
    ∀ (n N:Nat) (we:cA) (g:G),n < N->Iv n we g->hU (ik c b N we g) D:=by
  intro n
  induction n using Nat.strongRecOn with
  | _ n ih=>
    intro N we g hN hi;cases N with
    | zero=>exact absurd hN (Nat.not_lt_zero _)
    | succ N=>
      rw[ik,fO];refine(hstep n we g hi).mono fun k g1 p=>?_
      cases k with
      | false=>rw[if_neg Bool.false_ne_true] at p ⊢;rw[md];exact p
      | true=>
        rw[if_pos rfl] at p ⊢;cases e:b we g1 with
        | nx we' g'=>rw[e,md] at p;obtain⟨m,hm,p⟩:=p;exact ih m hm N we' g' (by omega) p
        | bk we' g'=>rw[e,BI] at p;dsimp only;rw[md];exact p
        | rt u h'=>rw[e,sr] at p;dsimp only;rw[sr];exact p
        | ex=>rw[e,BJ] at p;exact p.elim
        | bad=>rw[e,BH] at p;exact p.elim
theorem A5 {n:Nat} (h:n < 1099511627776):n < UL.gZ:=Nat.lt_of_lt_of_le h ni
theorem zb {c:PT} {b:PS} (n:Nat) (hn:n < 1099511627776) (Iv:Nat->cA->G->Prop) (h0:Iv n we g) (hstep:∀ n we g,Iv n we g->aQ (c we g) fun k g1=>if k=true then hU (b we g1) { nx:=fun we g=>∃ m,m < n/\Iv m we g,rt:=D.rt,bk:=D.nx } else D.nx we g1) :
    hU (kY c b we g) D:=za Iv hstep n UL.gZ we g (A5 hn) h0
theorem l6 {tg:PG} {Q:List W->G->Prop} (Iv:List W->List W->G->Prop) (hstep:∀ x xs acc g,Iv (x::xs) acc g->aQ (tg x we g) fun we1 g1=>aQ (t we1 g1) fun k g2=>if k=true then aQ (fe we1 g2) fun y g3=>Iv xs (acc++[y]) g3 else Iv xs acc g2) (hend:∀ acc g,Iv [] acc g->Q acc g) :
    ∀ (xs acc:List W) (g:G),Iv xs acc g->aQ (bQ tg t fe we xs g) fun ys g'=>Q (acc++ys) g'
  | [],acc,g,h=>by rw[bQ,cH,List.append_nil];exact hend acc g h
  | x::xs,acc,g,h=>by
    rw[bQ];simp only[aN,eX];refine(hstep x xs acc g h).mono fun we1 g1 k1=>?_
    refine k1.mono fun k g2 k2=>?_
    cases k with
    | true=>
      rw[if_pos rfl] at k2 ⊢;simp only[aN,eX];refine k2.mono fun y g3 k3=>?_
      refine(l6 Iv hstep hend xs (acc++[y]) g3 k3).mono fun ys g4 q=>?_
      rw[cH];simpa using q
    | false=>
      rw[if_neg Bool.false_ne_true] at k2 ⊢;exact l6 Iv hstep hend xs acc g2 k2
theorem Bu {fi:PI} {tg:PG} {vs:List Nat} (h:aQ (fi we g) fun xs g1=>xs.length < 1099511627776/\∃ Iv:List W->List W->G->Prop,Iv xs [] g1/\(∀ x xs acc g,Iv (x::xs) acc g->aQ (tg x (wipe we vs) g) fun we1 g1=>aQ (t we1 g1) fun k g2=>if k=true then aQ (fe we1 g2) fun y g3=>Iv xs (acc++[y]) g3 else Iv xs acc g2)/\∀ acc g,Iv [] acc g->acc.length<=16777216/\Q (.lst acc) g):aQ (bj fi tg t fe vs we g) Q:=by
  unfold bj;simp only[aN];refine h.mono fun xs g1 ⟨hl,Iv,a,b,c⟩=>?_
  refine(l6 (Q:=fun acc g=>acc.length<=16777216/\Q (.lst acc) g) Iv b c xs [] g1 a).mono fun ys g2 q=>?_
  rw[dg,cH];simp only[List.nil_append] at q;exact⟨⟨hl,q.1⟩,q.2⟩
inductive ko (R:α->β->Prop):List α->List β->Prop
  | nil:ko R [] []
  | cons {a:α} {b:β} {as:List α} {bs:List β}:R a b->ko R as bs->ko R (a::as) (b::bs)
theorem ko.len {R:α->β->Prop} {as:List α} {bs:List β} (h:ko R as bs):as.length=bs.length:=by
  induction h with
  | nil=>rfl
  | cons _ _ ih=>simp[ih]
theorem l7 {tg:PG} (J:G->Prop) (R:W->W->Prop):∀ (xs:List W) (g:G),J g->(∀ x∈xs,∀ g,J g->aQ (tg x we g) fun we1 g1=>aQ (t we1 g1) fun k g2=>k=true/\aQ (fe we1 g2) fun y g3=>R x y/\J g3)->aQ (bQ tg t fe we xs g) fun ys g'=>ko R xs ys/\J g'
  | [],g,j,h=>by rw[bQ,cH];exact⟨.nil,j⟩
  | x::xs,g,j,h=>by
    rw[bQ];simp only[aN,eX];refine(h x List.mem_cons_self g j).mono fun we1 g1 k1=>?_
    refine k1.mono fun k g2 ⟨e,k2⟩=>?_
    subst e;rw[if_pos rfl];simp only[aN,eX];refine k2.mono fun y g3 ⟨r,j3⟩=>?_
    refine(l7 J R xs g3 j3 fun z hz=>h z (List.mem_cons_of_mem _ hz)).mono fun ys g4 ⟨a,b⟩=>?_
    rw[cH];exact⟨.cons r a,b⟩
theorem l5 {fi:PI} {tg:PG} {vs:List Nat} (J:G->Prop) (R:W->W->Prop) (h:aQ (fi we g) fun xs g1=>xs.length<=16777216/\J g1/\(∀ x∈xs,∀ g,J g->aQ (tg x (wipe we vs) g) fun we1 g1=>aQ (t we1 g1) fun k g2=>k=true/\aQ (fe we1 g2) fun y g3=>R x y/\J g3)/\∀ ys g',ko R xs ys->J g'->Q (.lst ys) g'):aQ (bj fi tg t fe vs we g) Q:=by
  unfold bj;simp only[aN];refine h.mono fun xs g1 ⟨hl,j,a,b⟩=>?_
  refine(l7 J R xs g1 j a).mono fun ys g2 ⟨q,j2⟩=>?_
  rw[dg,cH];exact⟨⟨by omega,by have:=q.len;omega⟩,b ys g2 q j2⟩
theorem ko.map {φ:α->β} {as:List α} {bs:List β} (h:ko (fun a b=>b=φ a) as bs):bs=as.map φ:=by
  induction h with
  | nil=>rfl
  | cons r _ ih=>rw[r,ih];rfl
theorem gO {fi:PI} {tg:PG} {vs:List Nat} (φ:W->W) (h:aQ (fi we g) fun xs g1=>xs.length<=16777216/\(∀ x∈xs,aQ (tg x (wipe we vs) g1) fun we1 g2=>aQ (t we1 g2) fun k g3=>k=true/\aQ (fe we1 g3) fun y g4=>y=φ x/\g4=g1)/\Q (.lst (xs.map φ)) g1):aQ (bj fi tg t fe vs we g) Q:=by
  unfold bj;simp only[aN];refine h.mono fun xs g1 ⟨hl,a,b⟩=>?_
  refine(l7 (fun g=>g=g1) (fun x y=>y=φ x) xs g1 rfl fun x hx g e=>by subst e;exact a x hx).mono fun ys g2 ⟨q,j2⟩=>?_
  subst j2;rw[q.map,dg,cH];exact⟨⟨by omega,by simpa using hl⟩,b⟩
theorem kN {tg:PG} (p:W->Bool) (φ:W->W):∀ (xs:List W) (g:G),(∀ x∈xs,aQ (tg x we g) fun we1 g2=>aQ (t we1 g2) fun k g3=>k=p x/\g3=g/\(k=true->aQ (fe we1 g3) fun y g4=>y=φ x/\g4=g))->aQ (bQ tg t fe we xs g) fun ys g'=>ys=(xs.filter p).map φ/\g'=g
  | [],g,h=>by rw[bQ,cH];exact⟨rfl,rfl⟩
  | x::xs,g,h=>by
    rw[bQ];simp only[aN,eX];refine(h x List.mem_cons_self).mono fun we1 g1 k1=>?_
    refine k1.mono fun k g2 ⟨e,eg,k2⟩=>?_
    subst eg;cases k with
    | true=>
      rw[if_pos rfl];simp only[aN,eX];refine(k2 rfl).mono fun y g3 ⟨r,j3⟩=>?_
      subst j3;refine(kN p φ xs g3 fun z hz=>h z (List.mem_cons_of_mem _ hz)).mono fun ys g4 ⟨a,b⟩=>?_
      subst a b;rw[cH,List.filter_cons,if_pos e.symm,r];exact⟨rfl,rfl⟩
    | false=>
      rw[if_neg Bool.false_ne_true];refine(kN p φ xs g2 fun z hz=>h z (List.mem_cons_of_mem _ hz)).mono fun ys g4 ⟨a,b⟩=>?_
      rw[List.filter_cons,if_neg (by rw[<- e];exact Bool.false_ne_true)]
      exact⟨a,b⟩
theorem yV {fi:PI} {tg:PG} {vs:List Nat} (p:W->Bool) (φ:W->W) (h:aQ (fi we g) fun xs g1=>xs.length<=16777216/\(∀ x∈xs,aQ (tg x (wipe we vs) g1) fun we1 g2=>aQ (t we1 g2) fun k g3=>k=p x/\g3=g1/\(k=true->aQ (fe we1 g3) fun y g4=>y=φ x/\g4=g1))/\Q (.lst ((xs.filter p).map φ)) g1):aQ (bj fi tg t fe vs we g) Q:=by
  unfold bj;simp only[aN];refine h.mono fun xs g1 ⟨hl,a,b⟩=>?_
  refine(kN p φ xs g1 a).mono fun ys g2 ⟨q,j2⟩=>?_
  subst q j2;rw[dg,cH];have:=List.length_filter_le p xs;exact⟨⟨by omega,by rw[List.length_map];omega⟩,b⟩
end
end PQ

namespace PQ
open PySem UL
section
variable {v0:Vw} {h0:Hm} {g0:G} {D:U->Hm->Rs U} {DP:W->G->PR W} {fa fw fe:FE} {pa pw pe:PE} {t:FT} {pt:PT} {f f2:FS} {p p2:PS} {ow:List Nat}
end
section
variable {DP:W->G->PR W} {fe fw:PE} {we:cA} {g:G} {Q:W->G->Prop}
end
end PQ

namespace PQ
open PySem UL
structure TdP where
  c:Str
  word:List Nat
  f:Option Str
  f2:Option Str:=none
section
variable {ow:List Nat} {f fa fb fc:FE} {p pa pb pc:PE}
end
end PQ

namespace PQ
open PySem UL
section
variable {ob:List Nat} {fa fb fc:FE} {pa pb pc:PE}
noncomputable abbrev slotU (fa fb fc:FE):FS:=UL.aA (UL.bf 0 (UL.aP (UL.aa (UL.aP (UL.aa fa (UL.aa fb UL.ai))) UL.ai))) (UL.dh fc (UL.vg (UL.aM UL.ixN (UL.ah 0) (UL.cE (.int 0))) (UL.cE (.int 1))))
end
end PQ

namespace PQ
open PySem UL
section
variable {v v':Vw} {h h':Hm} {g g':G} {ow:List Nat}
end
end PQ

namespace PQ
open PySem UL
def fD:PM:=fun a ws _=>match a,ws with
  | .str a,[.str b]=>(match Builtin.Str.occurrences (S a) (S b) 0 (S a).length 1 with
    | i::_=>some (.int (i:Nat))
    | []=>none)
  | _,_=>none
theorem yJ:JM UL.fD fD:=by
  intro v h g u w us ws z d r rs e;unfold fD at e;split at e
  . replace rs:=rs.one;obtain⟨u',rfl,r'⟩:=rs
    rw[r.c5 d,r'.c5 d];split at e
    . rename_i i rest ho
      cases e
      refine⟨_,h,v,?_,.refl d,.int _⟩;unfold UL.fD;simp only[ho]
    . cases e
  . cases e
end PQ

namespace PQ
open PySem UL
section
variable {v v':Vw} {h h':Hm} {g g':G} {ow:List Nat}
end
end PQ

namespace PQ
open PySem UL
section
variable {v v':Vw} {h h':Hm} {g g':G} {ow ow' ob:List Nat} {fa fb:FE} {pa pb:PE} {fr:FA} {pr:PA} {u:U} {w:W}
end
end PQ

namespace PQ
open PySem UL
section
variable {v v':Vw} {h h':Hm} {g g':G} {ow:List Nat} {fa:FE} {pa:PE}
end
end PQ

namespace PQ
open PySem UL
section
variable {v v':Vw} {h h':Hm} {g g':G}
end
end PQ

namespace PQ
open PySem UL
def JU (neg:Bool):ka:=fun a b _=>match a,b with
  | .bl x,.bl y=>some (.bl (if neg then !decide (x=y) else decide (x=y)))
  | _,_=>none
@[simp] theorem isBW_bl {neg x y:Bool} {g:G}:JU neg (.bl x) (.bl y) g=some (.bl (if neg then !decide (x=y) else decide (x=y))):=rfl
end PQ

namespace PQ
open PySem UL
section
variable {v v':Vw} {h h':Hm} {g g':G}
end
end PQ

namespace PQ
open PySem UL
section
variable {v v':Vw} {h h':Hm} {g g':G}
end
end PQ

namespace PQ
open PySem UL
section
variable {v v':Vw} {h h':Hm} {g g':G}
end
end PQ

namespace PQ
open PySem UL
mutual
def HE:W->Bool
  | .tup ws=>GD ws
  | .lst ws=>GD ws
  | .cq kvs=>DD kvs
  | .dN kvs=>DD kvs
  | .dL kvs=>DD kvs
  | .ins _ fs=>Ip fs
  | .d6 _=>false
  | .non=>true
  | .bl _=>true
  | .int _=>true
  | .str _=>true
  | .ty _=>true
  | .glo _=>true
  | .adr _=>true
def GD:List W->Bool
  | []=>true
  | w::ws=>HE w && GD ws
def DD:List (W × W)->Bool
  | []=>true
  | (k,x)::r=>HE k && HE x && DD r
def Ip:List (Str × W)->Bool
  | []=>true
  | (_,x)::r=>HE x && Ip r
end
def HG (v:Vw):Prop:=∀ i w,v.fz i=some w->HE w=true
structure Lay (v:Vw) (h:Hm) (g:G) (v':Vw) (h':Hm):Prop where
  st:dz v h g v' h' g
  al:HG v->HG v'
theorem Lay.refl {v:Vw} {h:Hm} {g:G} (d:Wd v h g):Lay v h g v h:=⟨.refl d,fun a=>a⟩
theorem Lay.trans {v v' v'':Vw} {h h' h'':Hm} {g:G} (a:Lay v h g v' h') (b:Lay v' h' g v'' h''):Lay v h g v'' h'':=⟨a.st.trans b.st,fun x=>b.al (a.al x)⟩
theorem Lay.obj {v v':Vw} {h h':Hm} {g:G} {o:O} {w:W} (a:Lay v h g v' h') (ro:dI v' o w) (hw:HE w=true):∃ v'' h'' u,Lay v h g v'' h''/\Rep v'' u w:=by
  obtain⟨s,r⟩:=jL a.st.wd ro;refine⟨_,_,_,⟨a.st.trans s,fun x i w' e=>?_⟩,r⟩
  have y:=a.al x;unfold Vw.frz at e;dsimp only at e;split at e
  . cases e;exact hw
  . exact y i w' e
def v0:Vw:=⟨fun _=>none,fun _=>none⟩
def Vw.bare (v:Vw):Vw:=⟨v.fz,fun _=>none⟩
end PQ

namespace PQ
open PySem UL
section
variable {v v':Vw} {h h':Hm} {g g':G} {ow:List Nat} {fa:FE} {pa:PE}
end
end PQ

namespace PQ
open PySem UL
section
variable {v v':Vw} {h h':Hm} {g g':G}
end
end PQ

namespace PQ
open PySem UL
section
variable {v v':Vw} {h h':Hm} {g g':G}
end
end PQ

namespace PQ
open PySem UL
section
variable {v v':Vw} {h h':Hm} {g g':G}
end
end PQ

namespace PQ
open PySem UL
section
variable {v v':Vw} {h h':Hm} {g g':G} {ow:List Nat} {fa fb:FE} {pa pb:PE} {u u':U} {w w' z:W}
end
section
variable {we:cA} {g:G} {Q:W->G->Prop} {QE:cA->G->Prop} {a b:PE} {w:W}
end
end PQ

namespace PQ
open PySem UL
mutual
def yR (d:List (W × W)):W->Prop
  | .tup ws=>sj d ws
  | .lst ws=>sj d ws
  | .cq kvs=>kvs≠d/\wm d kvs
  | .dN kvs=>wm d kvs
  | .dL kvs=>wm d kvs
  | .ins _ fs=>Bm d fs
  | _=>True
def sj (d:List (W × W)):List W->Prop
  | []=>True
  | w::ws=>yR d w/\sj d ws
def wm (d:List (W × W)):List (W × W)->Prop
  | []=>True
  | (a,b)::r=>yR d a/\yR d b/\wm d r
def Bm (d:List (W × W)):List (Str × W)->Prop
  | []=>True
  | (_,b)::r=>yR d b/\Bm d r
end
theorem jC {d:List (W × W)}:∀ {r:List (W × W)},wm d r->sj d (r.map (·.1))/\sj d (r.map (·.2))
  | [],_=>⟨trivial,trivial⟩
  | (a,b)::r,h=>by
    obtain⟨h1,h2,h3⟩:=h;obtain⟨x,y⟩:=jC h3;exact⟨⟨h1,x⟩,⟨h2,y⟩⟩
theorem wk {d:List (W × W)}:∀ {r:List (Str × W)},Bm d r->sj d (r.map (·.2))
  | [],_=>trivial
  | (a,b)::r,h=>⟨h.1,wk h.2⟩
mutual
theorem jZ {d:List (W × W)}:∀ (w:W),sizeOf w<=sizeOf d->yR d w
  | .non,_=>trivial
  | .bl _,_=>trivial
  | .int _,_=>trivial
  | .str _,_=>trivial
  | .ty _,_=>trivial
  | .glo _,_=>trivial
  | .adr _,_=>trivial
  | .d6 _,_=>trivial
  | .tup ws,h=>kL ws (by simp only[W.tup.sizeOf_spec] at h;omega)
  | .lst ws,h=>kL ws (by simp only[W.lst.sizeOf_spec] at h;omega)
  | .cq kvs,h=>⟨fun e=>by rw[e,W.cq.sizeOf_spec] at h;omega,hE kvs (by simp only[W.cq.sizeOf_spec] at h;omega)⟩
  | .dN kvs,h=>hE kvs (by simp only[W.dN.sizeOf_spec] at h;omega)
  | .dL kvs,h=>hE kvs (by simp only[W.dL.sizeOf_spec] at h;omega)
  | .ins _ fs,h=>oi fs (by simp only[W.ins.sizeOf_spec] at h;omega)
theorem kL {d:List (W × W)}:∀ (ws:List W),sizeOf ws<=sizeOf d->sj d ws
  | [],_=>trivial
  | w::ws,h=>⟨jZ w (by simp only[List.cons.sizeOf_spec] at h;omega),kL ws (by simp only[List.cons.sizeOf_spec] at h;omega)⟩
theorem hE {d:List (W × W)}:∀ (ws:List (W × W)),sizeOf ws<=sizeOf d->wm d ws
  | [],_=>trivial
  | (a,b)::ws,h=>⟨jZ a (by simp only[List.cons.sizeOf_spec,Prod.mk.sizeOf_spec] at h;omega),jZ b (by simp only[List.cons.sizeOf_spec,Prod.mk.sizeOf_spec] at h;omega),hE ws (by simp only[List.cons.sizeOf_spec] at h;omega)⟩
theorem oi {d:List (W × W)}:∀ (ws:List (Str × W)),sizeOf ws<=sizeOf d->Bm d ws
  | [],_=>trivial
  | (a,b)::ws,h=>⟨jZ b (by simp only[List.cons.sizeOf_spec,Prod.mk.sizeOf_spec] at h;omega),oi ws (by simp only[List.cons.sizeOf_spec] at h;omega)⟩
end
open Classical in
noncomputable def xD (v:Vw) (d:List (W × W)):Vw:=⟨fun i=>match v.fz i with
  | some w=>if yR d w then some w else none
  | none=>none,v.cm⟩
section
variable {v v' v2:Vw} {h h' h2:Hm} {g g' g2:G} {u:U} {w:W} {d:List (W × W)}
theorem Gn {i:Nat} (e:v.fz i=some w) (n:yR d w):(xD v d).fz i=some w:=by
  unfold xD;dsimp only;rw[e];exact if_pos n
theorem A3 {i:Nat} (e:(xD v d).fz i=some w):v.fz i=some w/\yR d w:=by
  unfold xD at e;dsimp only at e;split at e
  . rename_i x hx
    split at e
    . rename_i n
      cases e
      exact⟨hx,n⟩
    . cases e
  . cases e
mutual
theorem Rep.lk:∀ (u:U) (w:W),Rep v u w->yR d w->Rep (xD v d) u w
  | .non,_,h,_=>by cases h;exact .non
  | .bl _,_,h,_=>by cases h;exact .bl _
  | .int _,_,h,_=>by cases h;exact .int _
  | .str _,_,h,_=>by cases h;exact .str _
  | .ty _,_,h,_=>by cases h;exact .ty _
  | .glo _,_,h,_=>by cases h;exact .glo _
  | .adr _,_,h,_=>by cases h;exact .adr _
  | .ref i,w,h,n=>by
    cases h with
    | fro e=>exact .fro (Gn e n)
    | d6 e=>exact .d6 e
  | .tup us,_,h,n=>by
    cases h with
    | tup r=>exact .tup (aO.lk us _ r n)
theorem aO.lk:∀ (us:List U) (ws:List W),aO v us ws->sj d ws->aO (xD v d) us ws
  | [],_,h,_=>by cases h;exact .nil
  | u::us,_,h,n=>by
    cases h with
    | cons a b=>exact .cons (Rep.lk u _ a n.1) (aO.lk us _ b n.2)
end
theorem dI.lk {o:O} (r:dI v o w) (n:yR d w):dI (xD v d) o w:=by
  cases o<;>cases w<;>first
    | exact r.elim
    | exact aO.lk _ _ r n
    | exact⟨aO.lk _ _ r.k (jC n.2).1,aO.lk _ _ r.x (jC n.2).2⟩
    | exact⟨aO.lk _ _ r.k (jC n).1,aO.lk _ _ r.x (jC n).2⟩
    | exact⟨r.1,r.2.k,aO.lk _ _ r.2.x (wk n)⟩
def Iu (d:List (W × W)):Cl->Prop
  | .lst ws=>sj d ws
  | .ins _ fs=>Bm d fs
  | .cq kvs=>wm d kvs
theorem dI.Im {o:O} {c:Cl} (r:dI v o c.w) (n:Iu d c):dI (xD v d) o c.w:=by
  cases c with
  | lst ws=>
    cases o with
    | lst us=>exact aO.lk _ _ r n
    | _=>exact r.elim
  | ins c ws=>
    cases o with
    | ins c' us=>exact⟨r.1,r.2.k,aO.lk _ _ r.2.x (wk n)⟩
    | _=>exact r.elim
  | cq ws=>
    cases o with
    | cq us=>exact⟨aO.lk _ _ r.k (jC n).1,aO.lk _ _ r.x (jC n).2⟩
    | _=>exact r.elim
theorem ff.lk {us:List (U × U)} (r:ff v us d):ff (xD v d) us d:=by
  have n:=jC (hE (d:=d) d (Nat.le_refl _));exact⟨aO.lk _ _ r.k n.1,aO.lk _ _ r.x n.2⟩
theorem Wd.lk (dd:Wd v h g) {r:Nat} {us:List (U × U)} (fr:v.fz r=some (.cq d)) (hg:∀ c∈g,Iu d c):Wd (xD v d) (h.set r (.dL us)) g:=by
  have nr:∀ i,v.fz i=none->r≠i:=fun i e z=>by subst z;rw[fr] at e;cases e
  refine⟨fun i w e=>?_,fun k c e=>?_,dd.inj,dd.dom⟩
  . obtain⟨e1,n⟩:=A3 e
    obtain⟨o,a,b⟩:=dd.fz i w e1
    have:r≠i:=fun z=>by
      subst z;rw[fr] at e1;cases e1
      exact n.1 rfl
    exact⟨o,by rw[List.getElem?_set_ne this];exact a,b.lk n⟩
  . obtain⟨i,o,a,b,c1,c2⟩:=dd.cm k c e
    refine⟨i,o,a,?_,by rw[List.getElem?_set_ne (nr i b)];exact c1,c2.Im (hg c (List.mem_of_getElem? e))⟩
    unfold xD;dsimp only;rw[b]
theorem Gp (dd:Wd v h g) {r:Nat} (fr:v.fz r=some (.cq d)):mq (xD v d) r:=⟨by
  cases e:(xD v d).fz r with
  | none=>rfl
  | some w=>
    obtain⟨e1,n⟩:=A3 e;rw[fr] at e1;cases e1
    exact absurd rfl n.1,fun k e=>by
  have:=dd.JR (show v.cm k=some r from e)
  rw[fr] at this;cases this⟩
open Classical in
noncomputable def vB (d:List (W × W)) (we:cA):cA:=we.map fun x=>match x with
  | some w=>if yR d w then some w else none
  | none=>none
theorem CB {we:cA} {s:Nat} (e:(vB d we)[s]?=some (some w)):we[s]?=some (some w)/\yR d w:=by
  unfold vB at e;rw[List.getElem?_map] at e;obtain⟨x,hx,e⟩:=mOsZ.mp e;split at e
  . split at e
    . rename_i n
      cases e
      exact⟨hx,n⟩
    . cases e
  . cases e
theorem br.lk {n0:Nat} {su:En} {we:cA} {i r:Nat} {us:List (U × U)} (e:br v h n0 [] su we) (dd:Wd v h g) (hi:su[i]?=some (some (.ref r))) (fr:v.fz r=some (.cq d)) (hr:h[r]?=some (.cq us)) (rp:ff v us d):br (xD v d) (h.set r (.dL us)) 0 [i] su ((vB d we).set i (some (.dL d))):=by
  have hlt:r < h.length:=(gEsZ.mp hr).1;have il:i < we.length:=by rw[<- e.len];exact(gEsZ.mp hi).1
  refine⟨by rw[List.length_set];unfold vB;rw[List.length_map];exact e.len,fun s w hs hw=>?_,fun s hs=>?_,fun s s' r' hs hs'=>?_⟩
  . have hne:i≠s:=fun z=>hs (by simp[z])
    rw[List.getElem?_set_ne hne] at hw;obtain⟨a,n⟩:=CB hw;obtain⟨u,hu,ru⟩:=e.val s w (by simp) a
    exact⟨u,hu,Rep.lk _ _ ru n⟩
  . have hs:s=i:=by simpa using hs
    subst hs;exact⟨r,.dL us,.dL d,hi,List.getElem?_set_self (by unfold vB;rw[List.length_map];exact il),List.getElem?_set_self hlt,rp.lk,Gp dd fr,Nat.zero_le _⟩
  . have hs:s=i:=by simpa using hs
    have hs':s'=i:=by simpa using hs'
    intros;rw[hs,hs']
end
section
variable {v v' v2:Vw} {h h' h2:Hm} {g g' g2:G} {ob:List Nat}
end
end PQ

namespace PQ
open PySem UL
section
variable {v v':Vw} {h h':Hm} {g g':G}
end
end PQ

namespace PQ
open PySem UL
section
variable {v v':Vw} {h h':Hm} {g g':G} {ow:List Nat} {fo:FE} {po:PE} {fa fk:FA} {pa pk:PA}
end
section
variable {v v':Vw} {h h':Hm} {g g':G} {n0:Nat} {ow ow' ob:List Nat} {su:En} {we:cA} {fr:FA} {pr:PA}
theorem vC (we:cA):∀ is:List Nat,(wipe we is).length=we.length
  | []=>rfl
  | i::is=>by
    show((wipe we is).set i none).length=_;rw[List.length_set,vC we is]
theorem fF {w:W} {s:Nat}:∀ {is:List Nat},(wipe we is)[s]?=some (some w)->s ∉ is/\we[s]?=some (some w)
  | [],e=>⟨by simp,e⟩
  | i::is,e=>by
    have e:((wipe we is).set i none)[s]?=some (some w):=e
    by_cases z:i=s
    . subst z
      have hl:i < (wipe we is).length:=by
        have:=(gEsZ.mp e).1;simpa using this
      rw[List.getElem?_set_self hl] at e;cases e
    . rw[List.getElem?_set_ne z] at e
      obtain⟨a,b⟩:=fF e;exact⟨by simp only[List.mem_cons,not_or];exact⟨fun q=>z q.symm,a⟩,b⟩
theorem br.drop (e:br v h n0 ow su we):br v h n0 [] su (PQ.wipe we ow):=
  ⟨by rw[vC];exact e.len,fun s w _ q=>e.val s w (fF q).1 (fF q).2,fun s hs=>(nomatch hs),fun s s' r hs=>(nomatch hs)⟩
end
section
variable {g:G} {we:cA} {Q:W->G->Prop} {fo:PE} {fa fk:PA}
end
end PQ

namespace PQ
open PySem UL
section
variable {v v' v'':Vw} {h h' h'':Hm} {g g' g'':G} {u u':U} {w w' z:W} {ow:List Nat} {fa fb fe:FE} {pa pb pe:PE} {t t1:FT} {pt pt1:PT}
theorem br.free {n0 n1:Nat} {su:En} {we:cA} (e:br v h n0 [] su we) (l:Le v v'):br v' h' n1 [] su we:=⟨e.len,fun s w hs q=>by
  obtain⟨u,hu,r⟩:=e.val s w hs q;exact⟨u,hu,r.up l⟩,fun s hs=>(nomatch hs),fun s s' r hs=>(nomatch hs)⟩
end
end PQ

namespace PQ
open PySem UL
section
variable {v v':Vw} {h h':Hm} {g g1:G} {n:Nat} {u:U} {w:W}
end
section
variable {v v':Vw} {h h':Hm} {g:G} {ow:List Nat} {fr:FA} {pr:PA} {u:U} {w:W}
end
end PQ

namespace PQ
open PySem UL
section
variable {v v':Vw} {h h':Hm} {g g':G}
end
end PQ

namespace PQ
open PySem UL
section
variable {v v':Vw} {h h':Hm} {g g':G}
end
end PQ

namespace PQ
open PySem UL
section
variable {v v':Vw} {h h':Hm} {g g':G}
end
end PQ

namespace PQ
open PySem UL
end PQ

namespace PQ
open PySem UL
section
variable {v v' v'':Vw} {h h' h'':Hm} {g g' g'':G} {ow ob:List Nat} {fa:FE} {pa:PE} {fr:FA} {pr:PA}
end
end PQ

namespace PQ
open PySem UL
structure Thn (d:List (W × W)) (v v':Vw):Prop where
  fz:∀ i w,v.fz i=some w->yR d w->v'.fz i=some w
  cm:∀ k i,v.cm k=some i->v'.cm k=some i
section
variable {v v':Vw} {d:List (W × W)} {w:W}
end
section
variable {va vb v2:Vw} {h h2:Hm} {g g2:G} {keep:W->Prop}
end
section
variable {i:Nat} {f:FS} {p:PS} {ob:List Nat}
end
section
variable {i:Nat} {p:PS} {we:cA} {g:G} {d:List (W × W)} {D:Es}
end
end PQ

namespace PQ
open PySem UL
end PQ

namespace PQ
open PySem UL
section
variable {v v':Vw} {h h':Hm} {g g1:G} {n:Nat} {u:U} {w:W}
end
end PQ

namespace PQ
open PySem UL
section
variable {v v' v'':Vw} {h h' h'':Hm} {g g' g'':G} {ow ob:List Nat} {fa:FE} {pa:PE} {y z:List Nat}
def jM (pa:PE) (y z:List Nat):PE:=fun we g=>(pa we g).bind fun w g1=>match w with
  | .str x=>if x.length + (x.length + 1) * z.length<=16777216/\1<=y.length then .ok (.str (PySem.StrLaws.replL y z x)) g1 else .bad
  | _=>.bad
theorem xn (ha:JE dq ow fa pa):JE rRep ow (UL.jM fa y z) (jM pa y z):=by
  intro v h g n0 su we d e;refine(ha v h g n0 su we d e).bind fun a x v1 h1 g1 s1 r1=>?_
  cases x with
  | str x=>
    have:=r1.c5 s1.wd;subst this
    by_cases hb:x.length + (x.length + 1) * z.length<=16777216/\1<=y.length
    . dsimp only
      rw[if_pos hb,if_pos hb];exact Res.ok s1.wd (.str _)
    . dsimp only
      rw[if_neg hb,if_neg hb];exact True.intro
  | _=>trivial
end
end PQ

namespace PQ
open PySem UL
def qV:ka:=fun a b _=>match a,b with
  | .str a,.str b=>some (.bl (!(Builtin.Str.occurrences (S b) (S a) 0 (S b).length 1).isEmpty))
  | _,_=>none
theorem xp:JO UL.vh qV:=by
  intro v h g u u' w w' z d r r' e;unfold qV at e;split at e
  . cases e
    rw[r.c5 d,r'.c5 d];exact⟨_,h,v,rfl,.refl d,.bl _⟩
  . cases e
end PQ

namespace PQ
open PySem UL
section
variable {i j:Int} {a b:Bool} {x y z:List Nat} {ws us:List W} {g:G} {u w:W} {k:Nat}
@[simp] theorem k8:addW (.int i) (.int j) g=some (.int (i + j)):=rfl
@[simp] theorem jk:addW (.str x) (.str y) g=if x.length + y.length<=16777216 then some (.str (x++y)) else none:=rfl
@[simp] theorem addW_tup:addW (.tup us) (.tup ws) g=if us.length + ws.length<=16777216 then some (.tup (us++ws)) else none:=rfl
@[simp] theorem tj:addW (.lst us) (.lst ws) g=if us.length + ws.length<=16777216 then some (.lst (us++ws)) else none:=rfl
@[simp] theorem addL_lst:JL (.lst us) (.lst ws) g=if us.length + ws.length<=16777216 then some (.lst (us++ws)) else none:=rfl
@[simp] theorem subW_int:Cy (.int i) (.int j) g=some (.int (i - j)):=rfl
theorem GA (h:small64 i=true):sh (.int i) (.int j) g=some (.int (i * j)):=by simp[sh,h]
theorem Ba (h:small64 j=true):sh (.int i) (.int j) g=some (.int (i * j)):=by simp[sh,h]
theorem lz (h:0 < j):se (.int i) (.int j) g=some (.int (i % j)):=by simp[se,h]
theorem yC (h:0 < j) (h2:j < 1073741824):tS (.int i) (.int j) g=some (.int (i / j)):=by simp[tS,h,h2]
@[simp] theorem cmpW_int {p:Int->Int->Bool}:vP p (.int i) (.int j) g=some (.bl (p i j)):=rfl
@[simp] theorem iaddW_int:ub (.int i) (.int j) g=some (.int (i + j)):=rfl
@[simp] theorem iaddW_str:ub (.str x) (.str y) g=if x.length + y.length<=16777216 then some (.str (x++y)) else none:=rfl
@[simp] theorem isW_non {neg:Bool}:Jr neg w .non g=(ll w).map fun k=>.bl (if neg then !k else k):=rfl
@[simp] theorem isNW_non:ll .non=some true:=rfl
@[simp] theorem isNW_bl:ll (.bl b)=some false:=rfl
@[simp] theorem isNW_int:ll (.int i)=some false:=rfl
@[simp] theorem isNW_str:ll (.str x)=some false:=rfl
@[simp] theorem isNW_tup:ll (.tup ws)=some false:=rfl
@[simp] theorem isNW_lst:ll (.lst ws)=some false:=rfl
@[simp] theorem isNW_dic {kvs:List (W × W)}:ll (.cq kvs)=some false:=rfl
@[simp] theorem isNW_ins {c:Str} {fs:List (Str × W)}:ll (.ins c fs)=some false:=rfl
@[simp] theorem isNW_cel:ll (.d6 k)=some false:=rfl
@[simp] theorem eqW_str:kj (.str x) (.str y) g=some (.bl (decide (x=y))):=rfl
@[simp] theorem eqW_int:kj (.int i) (.int j) g=some (.bl (decide (i=j))):=rfl
@[simp] theorem eqW_bl:kj (.bl a) (.bl b) g=some (.bl (decide (a=b))):=rfl
@[simp] theorem neW_str:wg (.str x) (.str y) g=some (.bl (!decide (x=y))):=rfl
@[simp] theorem neW_int:wg (.int i) (.int j) g=some (.bl (!decide (i=j))):=rfl
@[simp] theorem neW_bl:wg (.bl a) (.bl b) g=some (.bl (!decide (a=b))):=rfl
@[simp] theorem Ai:lV (.str x) (.str y)=(x == y):=rfl
@[simp] theorem eqFW_int:lV (.int i) (.int j)=(i == j):=rfl
@[simp] theorem scalW_str:c7 (.str x)=true:=rfl
@[simp] theorem scalW_int:c7 (.int i)=true:=rfl
@[simp] theorem scalW_bl:c7 (.bl b)=true:=rfl
@[simp] theorem scalW_non:c7 .non=true:=rfl
@[simp] theorem mM {neg:Bool}:iW neg u (.tup ws) g=if c7 u && ws.all c7 then some (.bl (if neg then !(ws.any fun y=>lV y u) else ws.any fun y=>lV y u)) else none:=by
  show(rM u (.tup ws)).map _=_
  have:rM u (.tup ws)=if c7 u && ws.all c7 then some (ws.any fun y=>lV y u) else none:=by
    unfold rM;split
    . rename_i h;cases h
    . rfl
  rw[this];cases hc:(c7 u && ws.all c7)<;>cases neg<;>simp
@[simp] theorem xj {neg:Bool}:iW neg u (.lst ws) g=if c7 u && ws.all c7 then some (.bl (if neg then !(ws.any fun y=>lV y u) else ws.any fun y=>lV y u)) else none:=by
  show(rM u (.lst ws)).map _=_
  have:rM u (.lst ws)=if c7 u && ws.all c7 then some (ws.any fun y=>lV y u) else none:=by
    unfold rM;split
    . rename_i h;cases h
    . rfl
  rw[this];cases hc:(c7 u && ws.all c7)<;>cases neg<;>simp
@[simp] theorem xi {neg:Bool} {c:Nat}:iW neg (.str [c]) (.str z) g=some (.bl (if neg then !decide (c∈z) else decide (c∈z))):=rfl
@[simp] theorem Dm:gn (.lst ws) (.int i) g=L2.atI ws i:=rfl
@[simp] theorem ixD_tup:gn (.tup ws) (.int i) g=L2.atI ws i:=rfl
@[simp] theorem Dq:gn (.str z) (.int i) g=if z.length<=16777216 then(L2.atI z i).map fun c=>.str [c] else none:=rfl
theorem Dl (h:g[k]?=some (.lst ws)):gn (.d6 k) (.int i) g=L2.atI ws i:=by
  unfold gn Dk vF;simp only[h];rfl
@[simp] theorem rO {kvs:List (W × W)}:gn (.cq kvs) w g=if c6 kvs=true then(d4 w).bind fun q=>gC kvs q else none:=rfl
@[simp] theorem keyW_str:d4 (.str x)=some (.inr x):=rfl
@[simp] theorem keyW_int:d4 (.int i)=some (.inl i):=rfl
theorem atI_nat {α:Type} {xs:List α} {n:Nat} (h:n < xs.length):L2.atI xs (n:Int)=some xs[n]:=by
  unfold L2.atI L2.ixN;rw[if_pos (by omega),if_pos (by omega)]
  simp[h]
theorem tA {α:Type} {xs:List α} {x:α}:L2.atI (xs++[x]) (-1)=some x:=by
  unfold L2.atI L2.ixN;rw[if_neg (by omega),if_pos (by simp;omega)]
  have:(-1 + ((xs++[x]).length:Int)).toNat=xs.length:=by simp;omega
  rw[this];simp
@[simp] theorem A0:eA [.str z] g=if z.length<=16777216 then some (.int z.length) else none:=rfl
@[simp] theorem AZ:eA [.lst ws] g=some (.int ws.length):=rfl
@[simp] theorem A1:eA [.tup ws] g=some (.int ws.length):=rfl
@[simp] theorem zW:yr [.int i] g=some (.int (if i < 0 then -i else i)):=rfl
@[simp] theorem oa:yP [.int i,.int j] g=some (.int (if j > i then j else i)):=rfl
@[simp] theorem oe:yQ [.int i,.int j] g=some (.int (if j < i then j else i)):=rfl
@[simp] theorem ue:gG [.int i] g=some (.int i):=rfl
@[simp] theorem intB_bl:gG [.bl b] g=some (.int (if b then 1 else 0)):=rfl
theorem wb (h0:0<=i) (h1:i < 1000000000):i.natAbs.log2 < 1920:=by
  by_cases z:i.natAbs=0
  . rw[z];decide
  . rw[Nat.log2_lt z]
    have:i.natAbs < 2 ^ 30:=by omega
    exact Nat.lt_of_lt_of_le this (Nat.pow_le_pow_right (by decide) (by decide))
theorem vf (h0:0<=i) (h1:i < 1000000000):lN [.int i] g=some (.str (UL.digits i)):=by simp[lN,wb h0 h1]
theorem tO (s:0 < j) (s2:j < 1073741824):fq [.int i,.int j] g=some (.tup [.int (i / j),.int (i % j)]):=by
  unfold fq;dsimp only
  have k:Builtin.divisionGoesByPylong i j=false:=by
    show(decide ((if j == 0 then 0 else j.natAbs.log2 / 30 + 1) > 300) && _)=false
    have hl:j.natAbs.log2 < 30:=by
      rw[Nat.log2_lt (by omega)]
      omega
    have:¬ ((if j == 0 then 0 else j.natAbs.log2 / 30 + 1) > 300):=by
      split
      . omega
      . rw[Nat.div_eq_of_lt hl];omega
    rw[decide_eq_false this];rfl
  rw[if_pos ⟨s,k⟩]
@[simp] theorem tupleB_lst:bH [.lst ws] g=some (.tup ws):=rfl
@[simp] theorem tupleB_tup:bH [.tup ws] g=some (.tup ws):=rfl
@[simp] theorem listB_lst:xC [.lst ws] g=some (.lst ws):=rfl
@[simp] theorem listB_tup:xC [.tup ws] g=some (.lst ws):=rfl
@[simp] theorem seqW_lst:jO (.lst ws)=some ws:=rfl
@[simp] theorem Cb:jO (.tup ws)=some ws:=rfl
@[simp] theorem itemsW_lst:fL (.lst ws)=some ws:=rfl
@[simp] theorem itemsW_tup:fL (.tup ws)=some ws:=rfl
@[simp] theorem itemsW_str:fL (.str z)=some (z.map fun c=>.str [c]):=rfl
@[simp] theorem truW_non:i9 .non g=some false:=rfl
@[simp] theorem EF:i9 (.bl b) g=some b:=rfl
@[simp] theorem truW_int:i9 (.int i) g=some (i != 0):=rfl
@[simp] theorem truW_str:i9 (.str x) g=if x.length<=16777216 then some (x.length != 0) else none:=rfl
@[simp] theorem truW_tup:i9 (.tup ws) g=some (!ws.isEmpty):=rfl
@[simp] theorem truW_lst:i9 (.lst ws) g=some (!ws.isEmpty):=rfl
@[simp] theorem slW_str {lo hi:Option Int}:Hc (.str z) lo hi=if z.length<=16777216 then some (.str (cutU z lo hi)) else none:=rfl
@[simp] theorem slW_tup {lo hi:Option Int}:Hc (.tup ws) lo hi=some (.tup (cutU ws lo hi)):=rfl
@[simp] theorem Et {lo hi:Option Int}:Hc (.lst ws) lo hi=some (.lst (cutU ws lo hi)):=rfl
@[simp] theorem tyW_str:Ht .str (.str z)=true:=rfl
@[simp] theorem tyW_lst:Ht .list (.lst ws)=true:=rfl
@[simp] theorem insW_ins {c:Str} {fs:List (Str × W)}:vU (.ins c fs) g=some (c,fs):=rfl
theorem tD (bs:List Bool):vO (bs.map W.bl)=some bs:=by
  induction bs with
  | nil=>rfl
  | cons b bs ih=>simp[vO,ih]
theorem z3 {bs:List Bool}:allB [.lst (bs.map W.bl)] g=some (.bl (bs.all fun b=>b)):=by simp[allB,tD]
theorem tu {bs:List Bool}:anyB [.lst (bs.map W.bl)] g=some (.bl (bs.any fun b=>b)):=by simp[anyB,tD]
theorem qU (zs:List (List Nat)):qT (zs.map W.str)=some zs:=by
  induction zs with
  | nil=>rfl
  | cons b bs ih=>simp[qT,ih]
theorem iH {zs:List (List Nat)} (h:(zs.map List.length).sum + zs.length * x.length<=16777216):joinM (.str x) [.lst (zs.map W.str)] g=some (.str (joinL x zs)):=by simp[joinM,qU,h]
theorem yK {zs:List (List Nat)} (h:(zs.map List.length).sum + zs.length * x.length<=16777216):joinM (.str x) [.tup (zs.map W.str)] g=some (.str (joinL x zs)):=by simp[joinM,qU,h]
@[simp] theorem setA_nil {we:cA}:kg [] [] we=some we:=rfl
@[simp] theorem setA_cons {is:List Nat} {we:cA}:kg (k::is) (w::ws) we=if k < we.length then kg is ws (we.set k (some w)) else none:=rfl
@[simp] theorem wipe_nil {we:cA}:wipe we []=we:=rfl
@[simp] theorem wipe_cons {we:cA} {vs:List Nat}:wipe we (k::vs)=(wipe we vs).set k none:=rfl
theorem ug {cs:List Str} {w:W} {t:String} (h:pF w g=some (.inl t)):ei cs [w,.ty "str"] g=some (.bl (t == "str")):=by
  have:uf t "str" = (t == "str"):=by simp[uf]
  simp[ei,eM,h,this]
theorem p9 {f:W->Option PyData} (hf:∀ z,f (.str z)=some (.str (S z))) (zs:List (List Nat)):iT.datWs f (zs.map W.str)=some (eU zs):=by
  induction zs with
  | nil=>rfl
  | cons z zs ih=>simp[iT.datWs,hf,ih,eU]
theorem tL (zs:List (List Nat)) (k:Nat):iT (k + 2) (.lst (zs.map W.str))=some (.list (eU zs)):=by
  simp only[iT];rw[p9 (fun z=>rfl)]
  rfl
theorem Ac (zs:List (List Nat)) (k:Nat):iT (k + 2) (.tup (zs.map W.str))=some (.tuple (eU zs)):=by
  simp only[iT];rw[p9 (fun z=>rfl)]
  rfl
end
theorem FH {x y:List Nat} (h:S x=S y):x=y:=by
  have:=congrArg (fun s:Str=>s.cps.toList) h
  simpa[S] using this
theorem FD {x y:List Nat}:(S x == S y)=decide (x=y):=by
  by_cases h:x=y
  . subst h;simp
  . rw[decide_eq_false h]
    exact beq_eq_false_iff_ne.mpr fun e=>h (FH e)
theorem qa:∀ xs ys:List (List Nat),PyData.eqvAll (eU xs) (eU ys)=decide (xs=ys)
  | [],[]=>rfl
  | [],y::ys=>by simp[eU,PyData.eqvAll]
  | x::xs,[]=>by simp[eU,PyData.eqvAll]
  | x::xs,y::ys=>by
    have ih:=qa xs ys;show(PyData.eqv (.str (S x)) (.str (S y)) && PyData.eqvAll (eU xs) (eU ys))=_;rw[ih];show((S x == S y) && _)=_;rw[FD]
    by_cases h1:x=y<;>by_cases h2:xs=ys<;>simp[h1,h2]
theorem jr:∀ zs:List (List Nat),PyData.depthAll (eU zs)=0
  | []=>rfl
  | z::zs=>by
    show max (PyData.depth (.str (S z))) (PyData.depthAll (eU zs))=0;rw[jr zs];rfl
theorem qo:∀ zs:List (List Nat),zs.all sgn=true->PyData.canLayAll0 (eU zs)=true
  | [],_=>rfl
  | z::zs,h=>by
    rw[List.all_cons,Bool.and_eq_true] at h;show(PyData.canLay0 (.str (S z)) && PyData.canLayAll0 (eU zs))=true;rw[qo zs h.2,Bool.and_true];show(S z).cps.all (fun c=>decide (c < 0x110000))=true
    rw[<- Array.all_toList];exact h.1
theorem u6 {zs:List (List Nat)} (h:zs.all sgn=true):SeqAt.shaped (.list (eU zs))=true:=by
  show(PyData.canLayAll0 (eU zs) && decide (PyData.depthAll (eU zs) + 1<=64))=true;rw[qo zs h,jr];rfl
theorem C3 {xs ys:List (List Nat)} (o1:xs.all sgn=true) (o2:ys.all sgn=true):eqB (.lst (xs.map W.str)) (.lst (ys.map W.str))=some (decide (xs=ys)):=by
  unfold eqB;rw[tL xs 10,tL ys 10];simp only[Aj,u6 o1,u6 o2,Bool.and_self,if_true];show some (PyData.eqvAll (eU xs) (eU ys))=_;rw[qa]
theorem DE {xs ys:List (List Nat)} {g:G} (o1:xs.all sgn=true) (o2:ys.all sgn=true):wg (.lst (xs.map W.str)) (.lst (ys.map W.str)) g=some (.bl (!decide (xs=ys))):=by unfold wg;rw[C3 o1 o2];rfl
theorem Ab {α:Type} {us:List α} {k:Nat} (h:k<=us.length):cutU us none (some (k:Int))=us.take k:=by
  unfold cutU;rw[HT.sIx_none,HT.sIx_nat,Nat.min_eq_left h];simp
theorem tH {α:Type} {us:List α} {k:Nat} (h:k<=us.length):cutU us (some (k:Int)) none=us.drop k:=by
  unfold cutU;rw[HT.sIx_none,HT.sIx_nat,Nat.min_eq_left h];rw[List.take_of_length_le (by simp)]
theorem nk {α:Type} {us:List α} {x:α}:cutU (us++[x]) none (some (-1))=us:=by
  unfold cutU;rw[HT.sIx_none]
  have e:HT.sIx (us++[x]).length (us++[x]).length (some (-1))=us.length:=by
    unfold HT.sIx;simp;omega
  rw[e];simp
theorem qM {α:Type} {us:List α} {k:Nat} {x:α} (h:k < us.length):us.take k++[x]++us.drop (k + 1)=us.set k x:=by
  rw[List.set_eq_take_append_cons_drop,if_pos h];simp
end PQ

namespace PQ
open PySem UL
@[simp] theorem revW_tup {ws:List W}:IG (.tup ws)=some (.tup ws.reverse):=rfl
@[simp] theorem revW_lst {ws:List W}:IG (.lst ws)=some (.lst ws.reverse):=rfl
@[simp] theorem neX_dic {kvs:List (W × W)} {ws:List W} {g:G}:KP (.cq kvs) (.tup ws) g=some (.bl true):=rfl
end PQ

namespace PQ
open PySem
section
variable {α β:Type} {we:cA} {g g':G} {Q:W->G->Prop} {p fe fk fv:PE} {t:PT} {tw:List Nat} {tds:List TdP} {c:Str} {fs:List (Str × W)}
end
end PQ

namespace PQ
open PySem UL
def KC (g:G):Prop:=∃ a b c:Int,g=[.lst [.int a,.int b,.int c]]/\0<=a/\0<=b/\b < 2147483647/\0<=c
def v1 (p:Nat):Vw:=⟨fun _=>none,fun k=>if k=0 then some p else none⟩
theorem IF {v:Vw} {us:List U} {a b c:Int} (r:aO v us [.int a,.int b,.int c]):(∀ {u:U} {i:Int},Rep v u (.int i)->u=.int i)->us=[.int a,.int b,.int c]:=fun k=>by
  cases r with
  | cons x r=>
    cases r with
    | cons y r=>
      cases r with
      | cons z r=>
        cases r
        rw[k x,k y,k z]
theorem Kg {p:Nat} {h:Hm} {a b c:Int} (e:h[p]?=some (.lst [.int a,.int b,.int c])):Wd (v1 p) h [.lst [.int a,.int b,.int c]]:=by
  refine⟨fun i w q=>(by cases q),fun k x q=>?_,fun k k' i q q'=>?_,fun k i q=>?_⟩
  . cases k with
    | zero=>
      simp at q;subst q;exact⟨p,_,rfl,rfl,e,.cons (.int a) (.cons (.int b) (.cons (.int c) .nil))⟩
    | succ k=>simp at q
  . unfold v1 at q q'
    dsimp only at q q'
    split at q<;>split at q'<;>first
      | omega
      | (cases q;done)
      | (cases q';done)
  . unfold v1 at q
    dsimp only at q;split at q
    . simp;omega
    . cases q
theorem FP {F:Fn} {P:jS} (hF:JF F P) {p:Nat} {h:Hm} (s:Sp p h) (hP:∀ g,KC g->aQ (P [.d6 0] g) fun u g'=>u=.bl true/\KC g'):cN (F [.ref p] h) fun u h'=>u=.bl true/\Fr p h h':=by
  obtain⟨a,b,c,e,a0,b0,b1,c0⟩:=s;have d:=Kg e;obtain⟨u,g',e1,rfl,a',b',c',rfl,a0',b0',b1',c0'⟩:=xJ.mp (hP _ ⟨a,b,c,rfl,a0,b0,b1,c0⟩);have x:=hF (v1 p) h _ [.ref p] [.d6 0] d (.cons (.d6 rfl) .nil);rw[e1] at x;obtain⟨u,h',v',e2,st,rp⟩:=x;rw[xM];refine⟨u,h',e2,(a7.rep (h:=h') rp).rq st.wd,st.hl,fun i hi hp=>st.fr i hi fun k q=>?_,?_⟩
  . unfold v1 at q
    dsimp only at q;split at q
    . cases q
      exact hp rfl
    . cases q
  . obtain⟨i,o,q1,_,q2,q3⟩:=st.wd.cm 0 _ rfl
    have q4:v'.cm 0=some p:=st.cm 0 (by simp)
    rw[q4] at q1;cases q1
    cases o with
    | lst us=>
      have:us=[.int a',.int b',.int c']:=IF q3 fun r=>(a7.rep (h:=h') r).cG st.wd
      subst this;exact⟨a',b',c',q2,a0',b0',b1',c0'⟩
    | _=>exact q3.elim
end PQ

namespace LP
open PySem PQ
open UL (digits joinL S cutU)
open PyProof.Rows (split_weight)
inductive Cd where
  | empty | on | end_ | mark
def Cd.pre:Cd->List Nat
  | .empty=>[105,102,32,101,109,112,116,121,32,103,111,32]
  | .on=>[105,102,32,111,110,32,103,111,32]
  | .end_=>[105,102,32,101,110,100,32,103,111,32]
  | .mark=>[105,102,32,109,97,114,107,32,103,111,32]
inductive Rw where
  | tell | tellBare | clear | on | off | add | go (n:Nat) | ifgo (c:Cd) (n:Nat)
def Rw.text:Rw->List Nat
  | .tell=>[116,101,108,108]
  | .tellBare=>[116,101,108,108,32,98,97,114,101]
  | .clear=>[99,108,101,97,114]
  | .on=>[111,110]
  | .off=>[111,102,102]
  | .add=>[97,100,100]
  | .go n=>[103,111,32]++digits n
  | .ifgo c n=>c.pre++digits n
def Rw.ok (each:Bool) (at_ many:Nat):Rw->Prop
  | .add=>each=true
  | .go n=>at_ < n/\n<=many
  | .ifgo c n=>(at_ < n/\n<=many)/\(match c with
    | .end_=>each=true
    | .mark=>each=true
    | _=>True)
  | _=>True
def iF:List Nat:=[101,97,99,104]
def fA:List Nat:=[112,105,101,99,101]
def ij:List Nat:=[108,97,115,116]
def iX (z:List Nat):Bool:=decide (z=iF)
theorem fK (n:Nat) (h:n<=1000):(digits n).length<=4:=by
  have:∀ n:Fin 1001,(digits ((n.val:Nat):Int)).length<=4:=by decide +kernel
  exact this ⟨n,by omega⟩
def Cd.name:Cd->List Nat
  | .empty=>[101,109,112,116,121]
  | .on=>[111,110]
  | .end_=>[101,110,100]
  | .mark=>[109,97,114,107]
def Rw.words:Rw->List (List Nat)
  | .tell=>[[116,101,108,108]]
  | .tellBare=>[[116,101,108,108],[98,97,114,101]]
  | .clear=>[[99,108,101,97,114]]
  | .on=>[[111,110]]
  | .off=>[[111,102,102]]
  | .add=>[[97,100,100]]
  | .go n=>[[103,111],digits n]
  | .ifgo c n=>[[105,102],c.name,[103,111],digits n]
def Rw.goal:Rw->Nat
  | .go n=>n
  | .ifgo _ n=>n
  | _=>0
theorem Rw.jI {each:Bool} {i many:Nat} {r:Rw} (h:r.ok each i many) (hm:many<=20):r.goal<=20:=by
  cases r<;>simp only[Rw.ok,Rw.goal] at h ⊢<;>omega
def gx (x:List Nat) (ws:List (List Nat)):Bool:=decide (((Txt.split (S x) (S [32])).map fun y=>y.cps.toList)=ws)
theorem u9 (n:Nat) (h:n<=20):gx (Rw.go n).text (Rw.go n).words=true/\gx (Rw.ifgo .empty n).text (Rw.ifgo .empty n).words=true/\gx (Rw.ifgo .on n).text (Rw.ifgo .on n).words=true/\gx (Rw.ifgo .end_ n).text (Rw.ifgo .end_ n).words=true/\gx (Rw.ifgo .mark n).text (Rw.ifgo .mark n).words=true:=by
  have:∀ n:Fin 21,(gx (Rw.go n.val).text (Rw.go n.val).words && (gx (Rw.ifgo .empty n.val).text (Rw.ifgo .empty n.val).words && (gx (Rw.ifgo .on n.val).text (Rw.ifgo .on n.val).words && (gx (Rw.ifgo .end_ n.val).text (Rw.ifgo .end_ n.val).words && gx (Rw.ifgo .mark n.val).text (Rw.ifgo .mark n.val).words))))=true:=by decide +kernel
  have:=this ⟨n,by omega⟩
  simpa[Bool.and_eq_true] using this
theorem zB {each:Bool} {i many:Nat} {r:Rw} (ok:r.ok each i many) (hm:many<=20):gx r.text r.words=true:=by
  have hs:=Rw.jI ok hm;cases r with
  | go n=>exact(u9 n hs).1
  | ifgo c n=>
    have:=u9 n hs;cases c
    . exact this.2.1
    . exact this.2.2.1
    . exact this.2.2.2.1
    . exact this.2.2.2.2
  | _=>decide +kernel
theorem text_len {each:Bool} {i many:Nat} {r:Rw} (ok:r.ok each i many) (hm:many<=20):r.text.length<=100:=by
  have hs:=Rw.jI ok hm;cases r with
  | go n=>have:=fK n (Nat.le_trans hs (by decide));simp[Rw.text,Rw.goal] at *;omega
  | ifgo c n=>have:=fK n (Nat.le_trans hs (by decide));cases c<;>simp[Rw.text,Cd.pre,Rw.goal] at *<;>omega
  | _=>decide
def dH (each:Bool) (rs:List Rw):Prop:=∀ (i:Nat) (r:Rw),rs[i]?=some r->r.ok each i rs.length
theorem J6:Rw.text (.ifgo .end_ 2)=[105,102,32,101,110,100,32,103,111,32,50]:=by decide +kernel
theorem B1:Rw.text (.ifgo .end_ 3)=[105,102,32,101,110,100,32,103,111,32,51]:=by decide +kernel
theorem IK:Rw.text (.ifgo .end_ 4)=[105,102,32,101,110,100,32,103,111,32,52]:=by decide +kernel
theorem J7:Rw.text (.ifgo .end_ 5)=[105,102,32,101,110,100,32,103,111,32,53]:=by decide +kernel
theorem J8:Rw.text (.ifgo .mark 4)=[105,102,32,109,97,114,107,32,103,111,32,52]:=by decide +kernel
theorem J9:Rw.text (.ifgo .mark 5)=[105,102,32,109,97,114,107,32,103,111,32,53]:=by decide +kernel
theorem uU:Rw.text (.ifgo .empty 2)=[105,102,32,101,109,112,116,121,32,103,111,32,50]:=by decide +kernel
theorem Ka:Rw.text (.ifgo .empty 7)=[105,102,32,101,109,112,116,121,32,103,111,32,55]:=by decide +kernel
theorem IL:Rw.text (.ifgo .on 2)=[105,102,32,111,110,32,103,111,32,50]:=by decide +kernel
theorem Fc:Rw.text (.go 3)=[103,111,32,51]:=by decide +kernel
theorem qJ:Rw.text (.go 4)=[103,111,32,52]:=by decide +kernel
theorem Fe:Rw.text (.go 5)=[103,111,32,53]:=by decide +kernel
theorem II:Rw.text (.go 6)=[103,111,32,54]:=by decide +kernel
theorem IJ:Rw.text (.go 7)=[103,111,32,55]:=by decide +kernel
theorem i7:Rw.text .add=[97,100,100]:=rfl
theorem Ff:Rw.text .on=[111,110]:=rfl
theorem oO:Rw.text .off=[111,102,102]:=rfl
theorem B2:Rw.text .clear=[99,108,101,97,114]:=rfl
structure Good3 (e q l:List Rw):Prop where
  pe:dH true e
  pq:dH false q
  pl:dH false l
  e1:1<=e.length
  e2:e.length<=10
  q2:q.length<=5
  l2:l.length<=5
def Rw.Jv (each:Bool) (at_ many:Nat):Rw->Bool
  | .add=>each
  | .go n=>decide (at_ < n) && decide (n<=many)
  | .ifgo c n=>(decide (at_ < n) && decide (n<=many)) && (match c with
    | .end_=>each
    | .mark=>each
    | _=>true)
  | _=>true
theorem Rw.GH {each:Bool} {at_ many:Nat}:∀ {r:Rw},r.Jv each at_ many=true->r.ok each at_ many
  | .add,h=>h
  | .go n,h=>by simpa[Jv,ok] using h
  | .ifgo c n,h=>by cases c<;>simpa[Jv,ok] using h
  | .tell,_=>trivial
  | .tellBare,_=>trivial
  | .clear,_=>trivial
  | .on,_=>trivial
  | .off,_=>trivial
def oz (each:Bool) (many:Nat):Nat->List Rw->Bool
  | _,[]=>true
  | i,r::rs=>r.Jv each i many && oz each many (i + 1) rs
theorem uM {each:Bool} {many:Nat}:∀ {rs:List Rw} {k:Nat},oz each many k rs=true->∀ (i:Nat) (r:Rw),rs[i]?=some r->r.ok each (k + i) many
  | [],k,_,i,r,e=>by simp at e
  | r::rs,k,h,i,r',e=>by
    rw[oz,Bool.and_eq_true] at h;cases i with
    | zero=>simp at e;subst e;exact Rw.GH h.1
    | succ i=>
      have:=uM h.2 i r' (by simpa using e)
      rw[show k + (i + 1)=k + 1 + i by omega]
      exact this
theorem part_of {each:Bool} {rs:List Rw} (h:oz each rs.length 0 rs=true):dH each rs:=fun i r e=>by
  have:=uM h i r e
  rwa [Nat.zero_add] at this
def rK (e q l:List Rw):Bool:=oz true e.length 0 e && (oz false q.length 0 q && (oz false l.length 0 l && (decide (1<=e.length) && (decide (e.length<=10) && (decide (q.length<=5) && decide (l.length<=5))))))
theorem ua {e q l:List Rw} (h:rK e q l=true):Good3 e q l:=by
  unfold rK at h;simp only[Bool.and_eq_true,decide_eq_true_eq] at h;exact⟨part_of h.1,part_of h.2.1,part_of h.2.2.1,h.2.2.2.1,h.2.2.2.2.1,h.2.2.2.2.2.1,h.2.2.2.2.2.2⟩
structure Ps where
  at_:Nat
  line:List Nat
  on:Bool
  added:Bool
  told:List (List Nat)
def fj (l:List Nat):List Nat:=if l.getLast?=some 44 then l.dropLast else l
def Cd.holds (c:Cd) (sign line:List Nat) (on:Bool):Bool:=match c with
  | .empty=>decide (line=[])
  | .on=>on
  | .end_=>decide (sign=[59])
  | .mark=>decide (sign=[44])
def Rw.step (r:Rw) (sign:List Nat) (s:Ps):Ps:=match r with
  | .tell=>{ s with at_:=s.at_ + 1,told:=s.told++[s.line],line:=[] }
  | .tellBare=>{ s with at_:=s.at_ + 1,told:=s.told++[fj s.line],line:=[] }
  | .clear=>{ s with at_:=s.at_ + 1,line:=[] }
  | .on=>{ s with at_:=s.at_ + 1,on:=true }
  | .off=>{ s with at_:=s.at_ + 1,on:=false }
  | .add=>if sign≠[59]/\s.added=false then { s with at_:=s.at_ + 1,line:=s.line++sign,added:=true } else { s with at_:=s.at_ + 1 }
  | .go n=>{ s with at_:=n }
  | .ifgo c n=>{ s with at_:=if c.holds sign s.line s.on then n else s.at_ + 1 }
def cB (rs:List Rw) (sign:List Nat):Nat->Ps->Ps
  | 0,s=>s
  | k + 1,s=>match rs[s.at_]? with
    | some r=>cB rs sign k (r.step sign s)
    | none=>s
def jJ (rs:List Rw) (sign line:List Nat) (on:Bool):Ps:=cB rs sign 12 ⟨0,line,on,false,[]⟩
theorem wx {rs:List Rw} {sign:List Nat} {s:Ps} (h:rs.length<=s.at_):∀ k,cB rs sign k s=s
  | 0=>rfl
  | k + 1=>by rw[cB,List.getElem?_eq_none h]
theorem wy {rs:List Rw} {sign:List Nat} {s:Ps} {r:Rw} {k:Nat} (h:rs[s.at_]?=some r):cB rs sign (k + 1) s=cB rs sign k (r.step sign s):=by rw[cB,h]
def Ps.size (s:Ps):Nat:=s.line.length + (s.told.map List.length).sum
theorem z7 (l:List Nat):(fj l).length<=l.length:=by
  unfold fj;split
  . rw[List.length_dropLast];omega
  . exact Nat.le_refl _
theorem step_size {r:Rw} {sign:List Nat} {s:Ps}:(r.step sign s).size + (if (r.step sign s).added then 0 else sign.length)<=s.size + (if s.added then 0 else sign.length):=by
  obtain⟨at_,line,on,added,told⟩:=s;have hb:=z7 line;cases r
  case add=>
    simp only[Rw.step,Ps.size];split
    . rename_i hc
      obtain⟨_,rfl⟩:=hc;simp;omega
    . exact Nat.le_refl _
  all_goals cases added<;>simp[Rw.step,Ps.size]<;>omega
theorem oH {rs:List Rw} {sign:List Nat}:∀ (k:Nat) (s:Ps),(cB rs sign k s).size<=s.size + (if s.added then 0 else sign.length)
  | 0,s=>by rw[cB];omega
  | k + 1,s=>by
    rw[cB];split
    . have:=oH (rs:=rs) (sign:=sign) k (by rename_i r _;exact r.step sign s)
      refine Nat.le_trans this ?_;exact step_size
    . omega
theorem zf {rs:List Rw} {sign line:List Nat} {on:Bool}:(jJ rs sign line on).size<=line.length + sign.length:=by
  have:=oH (rs:=rs) (sign:=sign) 12 ⟨0,line,on,false,[]⟩;simpa[Ps.size,jJ] using this
theorem qS {r:Rw} {sign:List Nat} {s:Ps}:(r.step sign s).told.length<=s.told.length + 1:=by
  cases r<;>simp only[Rw.step]<;>first | (simp;done) | (split<;>simp) | omega
theorem oI {rs:List Rw} {sign:List Nat}:∀ (k:Nat) (s:Ps),(cB rs sign k s).told.length<=s.told.length + k
  | 0,s=>by rw[cB];omega
  | k + 1,s=>by
    rw[cB];split
    . rename_i r _
      have h1:=oI (rs:=rs) (sign:=sign) k (r.step sign s);have h2:=qS (r:=r) (sign:=sign) (s:=s);omega
    . omega
theorem mf {rs:List Rw} {sign line:List Nat} {on:Bool}:(jJ rs sign line on).told.length<=12:=by
  have:=oI (rs:=rs) (sign:=sign) 12 ⟨0,line,on,false,[]⟩;simpa[jJ] using this
theorem Cu {P:Nat->Prop} {r:Rw} {sign:List Nat} {s:Ps} (hs:∀ c∈sign,P c) (hl:∀ c∈s.line,P c) (ht:∀ z∈s.told,∀ c∈z,P c):(∀ c∈(r.step sign s).line,P c)/\∀ z∈(r.step sign s).told,∀ c∈z,P c:=by
  have hb:∀ c∈fj s.line,P c:=fun c hc=>by
    unfold fj at hc;split at hc
    . exact hl c ((List.dropLast_sublist s.line).subset hc)
    . exact hl c hc
  cases r<;>simp only[Rw.step]
  case tell=>exact⟨fun c hc=>by simp at hc,fun z hz c hc=>by
    rcases List.mem_append.mp hz with hz | hz
    . exact ht z hz c hc
    . rw[List.mem_singleton] at hz;subst hz;exact hl c hc⟩
  case tellBare=>exact⟨fun c hc=>by simp at hc,fun z hz c hc=>by
    rcases List.mem_append.mp hz with hz | hz
    . exact ht z hz c hc
    . rw[List.mem_singleton] at hz;subst hz;exact hb c hc⟩
  case clear=>exact⟨fun c hc=>by simp at hc,ht⟩
  case add=>
    split
    . exact⟨fun c hc=>by
        rcases List.mem_append.mp hc with hc | hc
        . exact hl c hc
        . exact hs c hc,ht⟩
    . exact⟨hl,ht⟩
  all_goals exact⟨hl,ht⟩
theorem qz {P:Nat->Prop} {rs:List Rw} {sign:List Nat} (hs:∀ c∈sign,P c):∀ (k:Nat) (s:Ps),(∀ c∈s.line,P c)->(∀ z∈s.told,∀ c∈z,P c)->(∀ c∈(cB rs sign k s).line,P c)/\∀ z∈(cB rs sign k s).told,∀ c∈z,P c
  | 0,s,hl,ht=>⟨hl,ht⟩
  | k + 1,s,hl,ht=>by
    rw[cB];split
    . obtain⟨a,b⟩:=Cu hs hl ht
      exact qz hs k _ a b
    . exact⟨hl,ht⟩
abbrev Ls:=List Nat × Bool × List (List Nat)
def feed (rs:List Rw) (sign:List Nat) (st:Ls):Ls:=((jJ rs sign st.1 st.2.1).line,(jJ rs sign st.1 st.2.1).on,st.2.2++(jJ rs sign st.1 st.2.1).told)
def cw (e q:List Rw) (st:Ls) (piece:List Nat):Ls:=feed q [] (piece.foldl (fun st c=>feed e [c] st) st)
def bW (e q l:List Rw) (pieces:List (List Nat)):List (List Nat):=(feed l [] (pieces.foldl (cw e q) ([],false,[]))).2.2
def cost (pieces:List (List Nat)):Nat:=(pieces.map fun p=>p.length + 1).sum
def Ls.size (st:Ls):Nat:=st.1.length + (st.2.2.map List.length).sum
theorem lW {rs:List Rw} {sign:List Nat} {st:Ls}:Ls.size (feed rs sign st)<=Ls.size st + sign.length:=by
  have:=zf (rs:=rs) (sign:=sign) (line:=st.1) (on:=st.2.1);unfold Ps.size at this;unfold Ls.size feed;simp only[List.map_append,List.sum_append];omega
theorem lX {rs:List Rw} {sign:List Nat} {st:Ls}:(feed rs sign st).2.2.length<=st.2.2.length + 12:=by
  have:=mf (rs:=rs) (sign:=sign) (line:=st.1) (on:=st.2.1);unfold feed;simp only[List.length_append];omega
theorem iU {e:List Rw}:∀ (piece:List Nat) (st:Ls),Ls.size (piece.foldl (fun st c=>feed e [c] st) st)<=Ls.size st + piece.length
  | [],st=>Nat.le_refl _
  | c::piece,st=>by
    have h1:=iU (e:=e) piece (feed e [c] st);have h2:=lW (rs:=e) (sign:=[c]) (st:=st);simp only[List.foldl_cons,List.length_cons,List.length_nil] at *
    omega
theorem iV {e:List Rw}:∀ (piece:List Nat) (st:Ls),(piece.foldl (fun st c=>feed e [c] st) st).2.2.length<=st.2.2.length + 12 * piece.length
  | [],st=>Nat.le_refl _
  | c::piece,st=>by
    have h1:=iV (e:=e) piece (feed e [c] st);have h2:=lX (rs:=e) (sign:=[c]) (st:=st);simp only[List.foldl_cons,List.length_cons] at *
    omega
theorem ip {e q:List Rw}:∀ (ps:List (List Nat)) (st:Ls),Ls.size (ps.foldl (cw e q) st)<=Ls.size st + cost ps
  | [],st=>Nat.le_refl _
  | p::ps,st=>by
    have h1:=ip (e:=e) (q:=q) ps (cw e q st p);have h2:=lW (rs:=q) (sign:=[]) (st:=p.foldl (fun st c=>feed e [c] st) st)
    have h3:=iU (e:=e) p st
    have h4:Ls.size (cw e q st p)<=Ls.size st + p.length:=by
      unfold cw;simp only[List.length_nil] at h2;omega
    simp only[List.foldl_cons,cost,List.map_cons,List.sum_cons] at *
    omega
theorem iq {e q:List Rw}:∀ (ps:List (List Nat)) (st:Ls),(ps.foldl (cw e q) st).2.2.length<=st.2.2.length + 12 * cost ps
  | [],st=>Nat.le_refl _
  | p::ps,st=>by
    have h1:=iq (e:=e) (q:=q) ps (cw e q st p);have h2:=lX (rs:=q) (sign:=[]) (st:=p.foldl (fun st c=>feed e [c] st) st)
    have h3:=iV (e:=e) p st
    have h4:(cw e q st p).2.2.length<=st.2.2.length + 12 * p.length + 12:=by
      unfold cw;omega
    simp only[List.foldl_cons,cost,List.map_cons,List.sum_cons] at *
    omega
theorem uu {e q l:List Rw} {ps:List (List Nat)}:((bW e q l ps).map List.length).sum<=cost ps:=by
  have h1:=ip (e:=e) (q:=q) ps ([],false,[]);have h2:=lW (rs:=l) (sign:=[]) (st:=ps.foldl (cw e q) ([],false,[]));unfold bW;simp only[Ls.size,List.length_nil,List.map_nil,List.sum_nil] at *
  omega
theorem uv {e q l:List Rw} {ps:List (List Nat)}:(bW e q l ps).length<=12 * cost ps + 12:=by
  have h1:=iq (e:=e) (q:=q) ps ([],false,[]);have h2:=lX (rs:=l) (sign:=[]) (st:=ps.foldl (cw e q) ([],false,[]));unfold bW;simp only[List.length_nil] at *
  omega
def Ls.all (P:Nat->Prop) (st:Ls):Prop:=(∀ c∈st.1,P c)/\∀ z∈st.2.2,∀ c∈z,P c
theorem nA {P:Nat->Prop} {rs:List Rw} {sign:List Nat} {st:Ls} (hs:∀ c∈sign,P c) (h:Ls.all P st):Ls.all P (feed rs sign st):=by
  obtain⟨a,b⟩:=qz (rs:=rs) hs 12 ⟨0,st.1,st.2.1,false,[]⟩ h.1 (fun z hz=>by simp at hz)
  refine⟨a,fun z hz c hc=>?_⟩
  rcases List.mem_append.mp hz with hz | hz
  . exact h.2 z hz c hc
  . exact b z hz c hc
theorem qc {P:Nat->Prop} {e:List Rw}:∀ (piece:List Nat) (st:Ls),(∀ c∈piece,P c)->Ls.all P st->Ls.all P (piece.foldl (fun st c=>feed e [c] st) st)
  | [],st,_,h=>h
  | c::piece,st,hp,h=>by
    rw[List.foldl_cons];exact qc piece _ (fun d hd=>hp d (List.mem_cons_of_mem _ hd)) (nA (fun d hd=>by rw[List.mem_singleton] at hd;subst hd;exact hp _ (List.mem_cons_self ..)) h)
theorem oE {P:Nat->Prop} {e q:List Rw}:∀ (ps:List (List Nat)) (st:Ls),(∀ p∈ps,∀ c∈p,P c)->Ls.all P st->Ls.all P (ps.foldl (cw e q) st)
  | [],st,_,h=>h
  | p::ps,st,hp,h=>by
    rw[List.foldl_cons];exact oE ps _ (fun d hd=>hp d (List.mem_cons_of_mem _ hd)) (nA (fun d hd=>by simp at hd) (qc p st (hp p (List.mem_cons_self ..)) h))
theorem v7 {P:Nat->Prop} {e q l:List Rw} {ps:List (List Nat)} (hp:∀ p∈ps,∀ c∈p,P c):∀ z∈bW e q l ps,∀ c∈z,P c:=
  (nA (fun d hd=>by simp at hd) (oE ps ([],false,[]) hp ⟨fun c hc=>by simp at hc,fun z hz=>by simp at hz⟩)).2
def rJ (i many:Nat):List (List Nat):=(List.range (many - i)).map fun k=>digits ((i + 1 + k:Nat):Int)
theorem qr {i many n:Nat} (h1:i < n) (h2:n<=many):digits n∈rJ i many:=by
  refine List.mem_map.mpr ⟨n - i - 1,List.mem_range.mpr (by omega),?_⟩
  rw[show i + 1 + (n - i - 1)=n by omega]
def kS (e q l:List Rw):List (List Nat):=[iF]++e.map Rw.text++[fA]++q.map Rw.text++[ij]++l.map Rw.text
def Cj (e q l:List Rw):List Nat:=joinL [10] (kS e q l)
theorem oB {each:Bool} {rs:List Rw} (pk:dH each rs) (hl:rs.length<=10):((rs.map Rw.text).map List.length).sum<=1000:=by
  have:∀ xs:List Rw,(∀ x∈xs,x.text.length<=100)->((xs.map Rw.text).map List.length).sum<=100 * xs.length:=by
    intro xs
    induction xs with
    | nil=>intro _;simp
    | cons x xs ih=>
      intro hx;have h1:=hx x (by simp)
      have h2:=ih fun y hy=>hx y (by simp[hy])
      simp only[List.map_cons,List.sum_cons,List.length_cons];omega
  refine Nat.le_trans (this rs fun x hx=>?_) (by omega)
  obtain⟨i,hi⟩:=List.getElem?_of_mem hx;exact text_len (pk i x hi) (by omega)
theorem wD {e q l:List Rw} (g:Good3 e q l):((kS e q l).map List.length).sum + (kS e q l).length<=10000:=by
  have h1:=oB g.pe g.e2;have h2:=oB g.pq (Nat.le_trans g.q2 (by decide))
  have h3:=oB g.pl (Nat.le_trans g.l2 (by decide))
  have a:=g.e2;have b:=g.q2;have c:=g.l2;simp only[kS,List.map_append,List.map_cons,List.map_nil,List.sum_append,List.sum_cons,List.sum_nil,List.length_append,List.length_map,List.length_cons,List.length_nil,iF,fA,ij];omega
theorem xQ {each:Bool} {rs:List Rw} (pk:dH each rs) {i:Nat} (hi:i < rs.length):(rs[i]).ok each i rs.length:=pk i _ (List.getElem?_eq_getElem hi)

def Ij (a:List Nat):List (List Nat)->Nat
  | []=>0
  | x::l=>if x=a then 0 else Ij a l + 1
def p1 (rs:List (List Nat)):List (List Nat):=(rs.take (Ij fA rs)).drop 1
def p2 (rs:List (List Nat)):List (List Nat):=(rs.take (Ij ij rs)).drop (Ij fA rs + 1)
def p3 (rs:List (List Nat)):List (List Nat):=rs.drop (Ij ij rs + 1)
end LP
namespace LP
open PySem PQ
theorem jv {ow:List Nat} {i:Nat} (hi:i ∉ ow:=by decide):PQ.JE PQ.rRep ow (UL.ah i) (PQ.ah i):=PQ.JV hi
theorem bX {ow:List Nat} {x:List Nat}:PQ.JE PQ.rRep ow (UL.cE (.str x)) (PQ.cE (.str x)):=PQ.hV fun _=>.str _
theorem mO {ow:List Nat} {x:Int}:PQ.JE PQ.rRep ow (UL.cE (.int x)) (PQ.cE (.int x)):=PQ.hV fun _=>.int _
theorem kn {ow:List Nat} {x:List Nat}:PQ.JE PQ.dq ow (UL.cE (.str x)) (PQ.cE (.str x)):=PQ.JE.one bX
theorem eR {ow:List Nat} {x:Int}:PQ.JE PQ.dq ow (UL.cE (.int x)) (PQ.cE (.int x)):=PQ.JE.one mO
noncomputable def bD:jS:=dW 5 2 (
  aA (dh (aM addW (aM gn (ah 0) (cE (.int 2))) (cE (.int 1))) (zG (ah 0) (cE (.int 2))))
  (aA (dh (aM se (aS gG (aa (aM addW (aM addW (aM sh (aM gn (ah 0) (cE (.int 1))) (cE (.int 69621))) (aM sh (cE (.int 40503)) (aM gn (ah 0) (cE (.int 2))))) (cE (.int 1))) ai)) (cE (.int 2147483647))) (zG (ah 0) (cE (.int 1))))
  (aA (cJ (cb (aM KJ (aM gn (ah 0) (cE (.int 0))) (cE (.int 0))))
  (aA (dh (aS fq (aa (aM gn (ah 0) (cE (.int 0))) (aa (ah 1) ai))) (eY 2 (a9 (zG (ah 0) (cE (.int 0))) (a9 (aG 4) cC))))
  (retS (ah 4)))
  (aH))
  (aA (bf 2 (aM addW (aM gn (ah 0) (cE (.int 1))) (cE (.int 12345))))
  (aA (bf 3 (aM se (aS gG (aa (aM addW (aM sh (ah 2) (aM gn (ah 0) (cE (.int 1)))) (aM gn (ah 0) (cE (.int 2)))) ai)) (cE (.int 2147483629))))
  (retS (aM se (aS gG (aa (aM tS (ah 3) (cE (.int 256))) ai)) (ah 1))))))))
theorem cx:JF LW.bC bD:=by
  unfold LW.bC bD;exact dk (bK (ow2:=[]) (ow':=[]) (aF (ow2:=[]) (fN (aE bV (JE.one (aE cD au eR)) eR) (vY au eR))
  (aF (ow2:=[]) (fN (aE r9 (JE.one (bp nO (aD (JE.one (aE bV (JE.one (aE bV (JE.one (aE vZ (JE.one (aE cD au eR)) eR)) (JE.one (aE vZ eR (JE.one (aE cD au eR)))))) eR)) aK))) eR) (vY au eR))
  (aF (ow2:=[]) (bI (a8 (JE.one (aE jx (JE.one (aE cD au eR)) eR)))
  (aF (ow2:=[]) (fN (bp yI (aD (JE.one (aE cD au eR)) (aD au aK))) (iz (bu (vY au eR) (bu (aW (by decide)) fV))))
  (a6 jv))
  aU)
  (aF (ow2:=[]) (bF (ow:=[]) (ow':=[]) (aE bV (JE.one (aE cD au eR)) eR) rfl)
  (aF (ow2:=[]) (bF (ow:=[]) (ow':=[]) (aE r9 (JE.one (bp nO (aD (JE.one (aE bV (JE.one (aE vZ au (JE.one (aE cD au eR)))) (JE.one (aE cD au eR)))) aK))) eR) rfl)
  (a6 (aE r9 (JE.one (bp nO (aD (JE.one (aE Dy au eR)) aK))) au))))))) (by decide))
noncomputable def bE:jS:=dW 2 2 (
  retS (aM gn (ah 1) (aC bD (aa (ah 0) (aa (aS eA (aa (ah 1) ai)) ai)))))
theorem cK:JF LW.bN bE:=by
  unfold LW.bN bE;exact dk (bK (ow2:=[]) (ow':=[]) (a6 (aE cD au (JE.one (aL cx (ag jv (ag (bp iY (aD au aK)) ao)))))) (by decide))
noncomputable def e9:jS:=dW 4 2 (
  aA (bf 2 (aC bE (aa (ah 0) (aa (aP (aa (cE (.str [97,98,59,44])) (aa (cE (.str [97,98,99,100,101,102,103,104,105,106,107,108,109,110,111,112,113,114,115,116,117,118,119,120,121,122,59,59,59,44,44,44])) (aa (cE (.str [97,59])) (aa (cE (.str [120,44,59])) (aa (cE (.str [44])) (aa (cE (.str [122])) ai))))))) ai))))
  (retS (dy .str joinM (cE (.str [])) (aa (bj (fB (aa (aC bD (aa (ah 0) (aa (aM addW (ah 1) (cE (.int 1))) ai))) ai)) (aG 3) (b9) (aC bE (aa (ah 0) (aa (ah 2) ai))) [3]) ai))))
theorem rS:JF LW.e7 e9:=by
  unfold LW.e7 e9;exact dk (bK (ow2:=[]) (ow':=[]) (aF (ow2:=[]) (bF (ow:=[]) (ow':=[]) (aL cK (ag jv (ag (JN.je (aV (ag bX (ag bX (ag bX (ag bX (ag bX (ag bX ao)))))))) ao))) rfl)
  (a6 (iy jW kn (aD (JE.one (JN.je (dX (JE.src (lr (aD (JE.one (aL cx (ag jv (ag (aE bV au eR) ao)))) aK))) (aW (by decide)) gq (aL cK (ag jv (ag jv ao))) (by decide)))) aK)))) (by decide))
noncomputable def ee:jS:=dW 2 1 (
  retS (aS bH (aa (bj (fB (aa (aC bD (aa (ah 0) (aa (cE (.int 6)) ai))) ai)) (aG 1) (b9) (aC e9 (aa (ah 0) (aa (aC bE (aa (ah 0) (aa (aP (aa (cE (.int 1)) (aa (cE (.int 3)) (aa (cE (.int 9)) ai)))) ai))) ai))) [1]) ai)))
theorem pL:JF LW.d8 ee:=by
  unfold LW.d8 ee;exact dk (bK (ow2:=[]) (ow':=[]) (a6 (bp et (aD (JE.one (JN.je (dX (JE.src (lr (aD (JE.one (aL cx (ag jv (ag mO ao)))) aK))) (aW (by decide)) gq (aL rS (ag jv (ag (aL cK (ag jv (ag (JN.je (aV (ag mO (ag mO (ag mO ao))))) ao))) ao))) (by decide)))) aK))) (by decide))
noncomputable def eW:jS:=dW 3 3 (
  retS (aS lN (aa (aM addW (aM addW (ah 1) (cE (.int 1))) (aC bD (aa (ah 0) (aa (aM Cy (ah 2) (ah 1)) ai)))) ai)))
theorem uj:JF LW.fY eW:=by
  unfold LW.fY eW;exact dk (bK (ow2:=[]) (ow':=[]) (a6 (bp AH (aD (JE.one (aE bV (JE.one (aE bV au eR)) (JE.one (aL cx (ag jv (ag (aE AO au au) ao)))))) aK))) (by decide))
noncomputable def fJ:jS:=dW 6 4 (
  aA (bf 4 (aC bD (aa (ah 0) (aa (cE (.int 9)) ai))))
  (aA (cJ (cb (aM Js (ah 4) (cE (.int 3))))
  (aA (bf 5 (aC bE (aa (ah 0) (aa (aP (aa (cE (.str [105,102,32,101,109,112,116,121,32,103,111,32])) (aa (cE (.str [105,102,32,111,110,32,103,111,32])) (aa (cE (.str [103,111,32])) ai)))) ai))))
  (aA (cJ (kc (cb (aM kj (ah 2) (cE (.str [101,97,99,104])))) (cb (aM Js (ah 4) (cE (.int 2)))))
  (bf 5 (aC bE (aa (ah 0) (aa (aP (aa (cE (.str [105,102,32,101,110,100,32,103,111,32])) (aa (cE (.str [105,102,32,109,97,114,107,32,103,111,32])) ai))) ai))))
  (aH))
  (retS (aM addW (ah 5) (aC eW (aa (ah 0) (aa (ah 1) (aa (ah 3) ai))))))))
  (aH))
  (aA (cJ (cb (aM Js (ah 4) (cE (.int 6))))
  (retS (aC bE (aa (ah 0) (aa (aP (aa (cE (.str [116,101,108,108])) (aa (cE (.str [116,101,108,108,32,98,97,114,101])) (aa (cE (.str [99,108,101,97,114])) (aa (cE (.str [116,101,108,108])) ai))))) ai))))
  (aH))
  (aA (cJ (cb (aM kj (ah 4) (cE (.int 6))))
  (retS (aC bE (aa (ah 0) (aa (aP (aa (cE (.str [111,110])) (aa (cE (.str [111,102,102])) ai))) ai))))
  (aH))
  (retS (pC (cb (aM kj (ah 2) (cE (.str [101,97,99,104])))) (cE (.str [97,100,100])) (aC bE (aa (ah 0) (aa (aP (aa (cE (.str [116,101,108,108])) (aa (cE (.str [116,101,108,108,32,98,97,114,101])) (aa (cE (.str [99,108,101,97,114])) (aa (cE (.str [111,110])) (aa (cE (.str [111,102,102])) ai)))))) ai)))))))))
theorem nL:JF LW.fH fJ:=by
  unfold LW.fH fJ;exact dk (bK (ow2:=[]) (ow':=[]) (aF (ow2:=[]) (bF (ow:=[]) (ow':=[]) (aL cx (ag jv (ag mO ao))) rfl)
  (aF (ow2:=[]) (bI (a8 (JE.one (aE jx au eR)))
  (aF (ow2:=[]) (bF (ow:=[]) (ow':=[]) (aL cK (ag jv (ag (JN.je (aV (ag bX (ag bX (ag bX ao))))) ao))) rfl)
  (aF (ow2:=[]) (bI (lq (a8 (JE.one (aE cQ au kn))) (a8 (JE.one (aE jx au eR))))
  (bF (ow:=[]) (ow':=[]) (aL cK (ag jv (ag (JN.je (aV (ag bX (ag bX ao)))) ao))) rfl)
  aU)
  (a6 (aE bV au (JE.one (aL uj (ag jv (ag jv (ag jv ao)))))))))
  aU)
  (aF (ow2:=[]) (bI (a8 (JE.one (aE jx au eR)))
  (a6 (aL cK (ag jv (ag (JN.je (aV (ag bX (ag bX (ag bX (ag bX ao)))))) ao))))
  aU)
  (aF (ow2:=[]) (bI (a8 (JE.one (aE cQ au eR)))
  (a6 (aL cK (ag jv (ag (JN.je (aV (ag bX (ag bX ao)))) ao))))
  aU)
  (a6 (qh (a8 (JE.one (aE cQ au kn))) bX (aL cK (ag jv (ag (JN.je (aV (ag bX (ag bX (ag bX (ag bX (ag bX ao))))))) ao))))))))) (by decide))
noncomputable def bU:jS:=dW 6 4 (
  aA (bf 4 (aM addW (ah 2) (aC bD (aa (ah 0) (aa (aM Cy (aM addW (ah 3) (cE (.int 1))) (ah 2)) ai)))))
  (retS (bj (fB (aa (ah 4) ai)) (aG 5) (b9) (aC fJ (aa (ah 0) (aa (ah 5) (aa (ah 1) (aa (ah 4) ai))))) [5])))
theorem fM:JF LW.bS bU:=by
  unfold LW.bS bU;exact dk (bK (ow2:=[]) (ow':=[]) (aF (ow2:=[]) (bF (ow:=[]) (ow':=[]) (aE bV au (JE.one (aL cx (ag jv (ag (aE AO (JE.one (aE bV au eR)) au) ao))))) rfl)
  (a6 (JN.je (dX (JE.src (lr (aD au aK))) (aW (by decide)) gq (aL nL (ag jv (ag jv (ag jv (ag jv ao))))) (by decide))))) (by decide))
noncomputable def f7:jS:=dW 5 1 (
  aA (mG [1,2] (aa (aC bD (aa (ah 0) (aa (cE (.int 9)) ai))) (aa (aC bE (aa (ah 0) (aa (aP (aa (cE (.str [116,101,108,108])) (aa (cE (.str [116,101,108,108])) (aa (cE (.str [116,101,108,108,32,98,97,114,101])) ai)))) ai))) ai)))
  (aA (mG [3,4] (aa (aP (aa (cE (.str [105,102,32,101,110,100,32,103,111,32,51])) (aa (cE (.str [97,100,100])) (aa (cE (.str [103,111,32,52])) (aa (ah 2) ai))))) (aa (aP (aa (cE (.str [105,102,32,101,109,112,116,121,32,103,111,32,50])) (aa (ah 2) ai))) ai)))
  (aA (cJ (cb (aM kj (ah 1) (cE (.int 0))))
  (retS (aP (aa (ah 3) (aa (aP ai) (aa (ah 4) ai)))))
  (aH))
  (aA (cJ (cb (aM kj (ah 1) (cE (.int 1))))
  (retS (aP (aa (ah 3) (aa (ah 4) (aa (aP ai) ai)))))
  (aH))
  (aA (cJ (cb (aM kj (ah 1) (cE (.int 2))))
  (retS (aP (aa (ah 3) (aa (aP ai) (aa (aP (aa (ah 2) ai)) ai)))))
  (aH))
  (aA (cJ (cb (aM kj (ah 1) (cE (.int 3))))
  (retS (aP (aa (ah 3) (aa (aP (aa (cE (.str [111,102,102])) ai)) (aa (aP ai) ai)))))
  (aH))
  (aA (cJ (cb (aM kj (ah 1) (cE (.int 4))))
  (retS (aP (aa (aP (aa (cE (.str [105,102,32,101,110,100,32,103,111,32,52])) (aa (cE (.str [105,102,32,109,97,114,107,32,103,111,32,53])) (aa (cE (.str [97,100,100])) (aa (cE (.str [103,111,32,53])) (aa (ah 2) ai)))))) (aa (aP ai) (aa (ah 4) ai)))))
  (aH))
  (aA (cJ (cb (aM kj (ah 1) (cE (.int 5))))
  (retS (aP (aa (aP (aa (cE (.str [105,102,32,101,110,100,32,103,111,32,53])) (aa (cE (.str [97,100,100])) (aa (cE (.str [105,102,32,109,97,114,107,32,103,111,32,52])) (aa (cE (.str [111,102,102])) (aa (cE (.str [103,111,32,55])) (aa (cE (.str [105,102,32,101,109,112,116,121,32,103,111,32,55])) (aa (ah 2) ai)))))))) (aa (aP ai) (aa (ah 4) ai)))))
  (aH))
  (aA (cJ (cb (aM kj (ah 1) (cE (.int 6))))
  (retS (aP (aa (aP (aa (cE (.str [105,102,32,101,110,100,32,103,111,32,52])) (aa (cE (.str [111,110])) (aa (cE (.str [97,100,100])) (aa (cE (.str [103,111,32,54])) (aa (ah 2) (aa (cE (.str [111,102,102])) ai))))))) (aa (aP ai) (aa (aP (aa (cE (.str [105,102,32,111,110,32,103,111,32,50])) (aa (cE (.str [103,111,32,51])) (aa (ah 2) ai)))) ai)))))
  (aH))
  (aA (cJ (cb (aM kj (ah 1) (cE (.int 7))))
  (retS (aP (aa (aP (aa (cE (.str [105,102,32,101,110,100,32,103,111,32,51])) (aa (cE (.str [97,100,100])) (aa (cE (.str [103,111,32,53])) (aa (ah 2) (aa (cE (.str [111,110])) ai)))))) (aa (aP (aa (cE (.str [105,102,32,111,110,32,103,111,32,50])) (aa (cE (.str [103,111,32,51])) (aa (cE (.str [111,102,102])) ai)))) (aa (ah 4) ai)))))
  (aH))
  (retS (aP (aa (aP (aa (cE (.str [105,102,32,101,110,100,32,103,111,32,50])) (aa (cE (.str [97,100,100])) ai))) (aa (aP (aa (cE (.str [105,102,32,101,109,112,116,121,32,103,111,32,50])) (aa (ah 2) (aa (cE (.str [99,108,101,97,114])) ai)))) (aa (aP (aa (aC bE (aa (ah 0) (aa (aP (aa (cE (.str [99,108,101,97,114])) (aa (ah 2) ai))) ai))) ai)) ai)))))))))))))))
theorem uh:JF LW.fX f7:=by
  unfold LW.fX f7;exact dk (bK (ow2:=[]) (ow':=[]) (aF (ow2:=[]) (lu (ow:=[]) (ow':=[]) (fy (aL cx (ag jv (ag mO ao))) (fy (aL cK (ag jv (ag (JN.je (aV (ag bX (ag bX (ag bX ao))))) ao))) kH)) rfl)
  (aF (ow2:=[]) (lu (ow:=[]) (ow':=[]) (fy (JN.je (aV (ag bX (ag bX (ag bX (ag jv ao)))))) (fy (JN.je (aV (ag bX (ag jv ao)))) kH)) rfl)
  (aF (ow2:=[]) (bI (a8 (JE.one (aE cQ au eR)))
  (a6 (JN.je (aV (ag jv (ag (JN.je (aV ao)) (ag jv ao))))))
  aU)
  (aF (ow2:=[]) (bI (a8 (JE.one (aE cQ au eR)))
  (a6 (JN.je (aV (ag jv (ag jv (ag (JN.je (aV ao)) ao))))))
  aU)
  (aF (ow2:=[]) (bI (a8 (JE.one (aE cQ au eR)))
  (a6 (JN.je (aV (ag jv (ag (JN.je (aV ao)) (ag (JN.je (aV (ag jv ao))) ao))))))
  aU)
  (aF (ow2:=[]) (bI (a8 (JE.one (aE cQ au eR)))
  (a6 (JN.je (aV (ag jv (ag (JN.je (aV (ag bX ao))) (ag (JN.je (aV ao)) ao))))))
  aU)
  (aF (ow2:=[]) (bI (a8 (JE.one (aE cQ au eR)))
  (a6 (JN.je (aV (ag (JN.je (aV (ag bX (ag bX (ag bX (ag bX (ag jv ao))))))) (ag (JN.je (aV ao)) (ag jv ao))))))
  aU)
  (aF (ow2:=[]) (bI (a8 (JE.one (aE cQ au eR)))
  (a6 (JN.je (aV (ag (JN.je (aV (ag bX (ag bX (ag bX (ag bX (ag bX (ag bX (ag jv ao))))))))) (ag (JN.je (aV ao)) (ag jv ao))))))
  aU)
  (aF (ow2:=[]) (bI (a8 (JE.one (aE cQ au eR)))
  (a6 (JN.je (aV (ag (JN.je (aV (ag bX (ag bX (ag bX (ag bX (ag jv (ag bX ao)))))))) (ag (JN.je (aV ao)) (ag (JN.je (aV (ag bX (ag bX (ag jv ao))))) ao))))))
  aU)
  (aF (ow2:=[]) (bI (a8 (JE.one (aE cQ au eR)))
  (a6 (JN.je (aV (ag (JN.je (aV (ag bX (ag bX (ag bX (ag jv (ag bX ao))))))) (ag (JN.je (aV (ag bX (ag bX (ag bX ao))))) (ag jv ao))))))
  aU)
  (a6 (JN.je (aV (ag (JN.je (aV (ag bX (ag bX ao)))) (ag (JN.je (aV (ag bX (ag jv (ag bX ao))))) (ag (JN.je (aV (ag (aL cK (ag jv (ag (JN.je (aV (ag bX (ag jv ao)))) ao))) ao))) ao)))))))))))))))) (by decide))
noncomputable def e8:jS:=dW 7 1 (
  aA (cJ (cb (aM kj (aC bD (aa (ah 0) (aa (cE (.int 6)) ai))) (cE (.int 0))))
  (aA (bf 1 (aP (aa (aC bU (aa (ah 0) (aa (cE (.str [101,97,99,104])) (aa (cE (.int 1)) (aa (cE (.int 7)) ai))))) (aa (aC bU (aa (ah 0) (aa (cE (.str [112,105,101,99,101])) (aa (cE (.int 0)) (aa (cE (.int 3)) ai))))) ai))))
  (retS (aM addW (ah 1) (aP (aa (aC bU (aa (ah 0) (aa (cE (.str [108,97,115,116])) (aa (cE (.int 0)) (aa (cE (.int 4)) ai))))) ai)))))
  (aH))
  (aA (bf 1 (aC f7 (aa (ah 0) ai)))
  (aA (gb (fB (aa (aC bE (aa (ah 0) (aa (aP (aa (cE (.int 0)) (aa (cE (.int 1)) (aa (cE (.int 1)) (aa (cE (.int 2)) ai))))) ai))) ai)) (aG 2)
  (aA (bf 3 (aC bE (aa (ah 0) (aa (aP (aa (cE (.int 0)) (aa (cE (.int 0)) (aa (cE (.int 1)) (aa (cE (.int 2)) ai))))) ai))))
  (aA (bf 4 (aM gn (ah 1) (ah 3)))
  (cJ (cb (aM wg (ah 4) (aP ai)))
  (aA (bf 5 (aC bD (aa (ah 0) (aa (aS eA (aa (ah 4) ai)) ai))))
  (aA (bf 6 (aC fJ (aa (ah 0) (aa (ah 5) (aa (aM gn (aP (aa (cE (.str [101,97,99,104])) (aa (cE (.str [112,105,101,99,101])) (aa (cE (.str [108,97,115,116])) ai)))) (ah 3)) (aa (aS eA (aa (ah 4) ai)) ai))))))
  (aA (bf 4 (aM addW (aM addW (oW (ah 4) (jd) (dR (ah 5))) (aP (aa (ah 6) ai))) (oW (ah 4) (dR (aM addW (ah 5) (cE (.int 1)))) (jd))))
  (bf 1 (aM addW (aM addW (oW (ah 1) (jd) (dR (ah 3))) (aP (aa (ah 4) ai))) (oW (ah 1) (dR (aM addW (ah 3) (cE (.int 1)))) (jd)))))))
  (aH)))))
  (retS (ah 1)))))
theorem rQ:JF LW.eZ e8:=by
  unfold LW.eZ e8;exact dk (bK (ow2:=[]) (ow':=[]) (aF (ow2:=[]) (bI (a8 (JE.one (aE cQ (JE.one (aL cx (ag jv (ag mO ao)))) eR)))
  (aF (ow2:=[]) (bF (ow:=[]) (ow':=[]) (JN.je (aV (ag (aL fM (ag jv (ag bX (ag mO (ag mO ao))))) (ag (aL fM (ag jv (ag bX (ag mO (ag mO ao))))) ao)))) rfl)
  (a6 (aE bV au (JE.one (JN.je (aV (ag (aL fM (ag jv (ag bX (ag mO (ag mO ao))))) ao)))))))
  aU)
  (aF (ow2:=[]) (bF (ow:=[]) (ow':=[]) (aL uh (ag jv ao)) rfl)
  (aF (ow2:=[]) (kI (lr (aD (JE.one (aL cK (ag jv (ag (JN.je (aV (ag mO (ag mO (ag mO (ag mO ao)))))) ao)))) aK)) (aW (by decide))
  (aF (ow2:=[]) (bF (ow:=[]) (ow':=[]) (aL cK (ag jv (ag (JN.je (aV (ag mO (ag mO (ag mO (ag mO ao)))))) ao))) rfl)
  (aF (ow2:=[]) (bF (ow:=[]) (ow':=[]) (aE cD au au) rfl)
  (bI (a8 (JE.one (aE qj au (JE.one (JN.je (aV ao))))))
  (aF (ow2:=[]) (bF (ow:=[]) (ow':=[]) (aL cx (ag jv (ag (bp iY (aD au aK)) ao))) rfl)
  (aF (ow2:=[]) (bF (ow:=[]) (ow':=[]) (aL nL (ag jv (ag jv (ag (aE cD (JE.one (JN.je (aV (ag bX (ag bX (ag bX ao)))))) au) (ag (bp iY (aD au aK)) ao))))) rfl)
  (aF (ow2:=[]) (bF (ow:=[]) (ow':=[]) (aE bV (JE.one (aE bV (JE.one (nS au nT (iZ au))) (JE.one (JN.je (aV (ag jv ao)))))) (JE.one (nS au (iZ (JE.one (aE bV au eR))) nT))) rfl)
  (bF (ow:=[]) (ow':=[]) (aE bV (JE.one (aE bV (JE.one (nS au nT (iZ au))) (JE.one (JN.je (aV (ag jv ao)))))) (JE.one (nS au (iZ (JE.one (aE bV au eR))) nT))) rfl))))
  aU))))
  (a6 jv)))) (by decide))
noncomputable def gK:jS:=dW 10 4 (
  aA (cJ (hW (eV (aS (ei ["Reader"]) (aa (ah 0) (aa (cE (.ty "str")) ai)))))
  (retS (cE .non))
  (aH))
  (aA (bf 4 (cU (aa (cE (.str [116,101,108,108])) (aa (cE (.str [116,101,108,108,32,98,97,114,101])) (aa (cE (.str [99,108,101,97,114])) (aa (cE (.str [111,110])) (aa (cE (.str [111,102,102])) (aa (cE (.str [97,100,100])) ai))))))))
  (aA (cJ (cb (aM (iW false) (ah 0) (ah 4)))
  (retS (pC (uK (cb (aM wg (ah 0) (cE (.str [97,100,100])))) (cb (aM kj (ah 2) (cE (.str [101,97,99,104]))))) (cU (aa (ah 0) ai)) (cE .non)))
  (aH))
  (aA (bf 5 (dy .str splitM (ah 0) (aa (cE (.str [32])) ai)))
  (aA (bf 6 (bj (lH (aa (aM addW (ah 1) (cE (.int 1))) (aa (aM addW (ah 3) (cE (.int 1))) ai))) (aG 9) (b9) (aS lN (aa (ah 9) ai)) [9]))
  (aA (cJ (cb (aM (iW true) (aM gn (ah 5) (kd (cE (.int 1)))) (ah 6)))
  (retS (cE .non))
  (aH))
  (aA (mG [7,8] (aa (aS gG (aa (aM gn (ah 5) (kd (cE (.int 1)))) ai)) (aa (dy .str joinM (cE (.str [32])) (aa (oW (ah 5) (jd) (dR (kd (cE (.int 1))))) ai)) ai)))
  (aA (cJ (cb (aM kj (ah 8) (cE (.str [103,111]))))
  (retS (cU (aa (cE (.str [103,111])) (aa (ah 7) ai))))
  (aH))
  (aA (cJ (uK (cb (aM (iW false) (ah 8) (cU (aa (cE (.str [105,102,32,101,109,112,116,121,32,103,111])) (aa (cE (.str [105,102,32,111,110,32,103,111])) ai))))) (kc (cb (aM kj (ah 2) (cE (.str [101,97,99,104])))) (cb (aM (iW false) (ah 8) (cU (aa (cE (.str [105,102,32,101,110,100,32,103,111])) (aa (cE (.str [105,102,32,109,97,114,107,32,103,111])) ai)))))))
  (retS (cU (aa (aM gn (ah 5) (cE (.int 1))) (aa (ah 7) ai))))
  (aH))
  (retS (cE .non)))))))))))
theorem qg:JF LW.gJ gK:=by
  unfold LW.gJ gK;exact dk (bK (ow2:=[]) (ow':=[]) (aF (ow2:=[]) (bI (ig (gp (JE.one (bp nQ (aD au (aD (JE.one (hV fun _=>(.ty _))) aK))))))
  (a6 (hV fun _=>.non))
  aU)
  (aF (ow2:=[]) (bF (ow:=[]) (ow':=[]) (di (ag bX (ag bX (ag bX (ag bX (ag bX (ag bX ao))))))) rfl)
  (aF (ow2:=[]) (bI (a8 (JE.one (aE jy au au)))
  (a6 (qh (rY (a8 (JE.one (aE qj au kn))) (a8 (JE.one (aE cQ au kn)))) (di (ag jv ao)) (hV fun _=>.non)))
  aU)
  (aF (ow2:=[]) (bF (ow:=[]) (ow':=[]) (iy AM au (aD kn aK)) rfl)
  (aF (ow2:=[]) (bF (ow:=[]) (ow':=[]) (JN.je (dX (JE.src (Dx (aD (JE.one (aE bV au eR)) (aD (JE.one (aE bV au eR)) aK)))) (aW (by decide)) gq (bp AH (aD au aK)) (by decide))) rfl)
  (aF (ow2:=[]) (bI (a8 (JE.one (aE jy (JE.one (aE cD au (JE.one (nR eR)))) au)))
  (a6 (hV fun _=>.non))
  aU)
  (aF (ow2:=[]) (lu (ow:=[]) (ow':=[]) (fy (bp nO (aD (JE.one (aE cD au (JE.one (nR eR)))) aK)) (fy (iy jW kn (aD (JE.one (nS au nT (iZ (JE.one (nR eR))))) aK)) kH)) rfl)
  (aF (ow2:=[]) (bI (a8 (JE.one (aE cQ au kn)))
  (a6 (di (ag bX (ag jv ao))))
  aU)
  (aF (ow2:=[]) (bI (rY (a8 (JE.one (aE jy au (JE.one (di (ag bX (ag bX ao))))))) (lq (a8 (JE.one (aE cQ au kn))) (a8 (JE.one (aE jy au (JE.one (di (ag bX (ag bX ao)))))))))
  (a6 (di (ag (aE cD au eR) (ag jv ao))))
  aU)
  (a6 (hV fun _=>.non))))))))))) (by decide))
noncomputable def dG:jS:=dW 4 2 (
  aA (cJ (uK (hW (eV (aS (ei ["Reader"]) (aa (ah 0) (aa (cE (.ty "tuple")) ai))))) (hW (cb (jn KN KN (o7 [([101,97,99,104],1),([112,105,101,99,101],0),([108,97,115,116],0)] (ah 1)) (aS eA (aa (ah 0) ai)) (o7 [([101,97,99,104],10),([112,105,101,99,101],5),([108,97,115,116],5)] (ah 1))))))
  (retS (cU (aa (cE .non) ai)))
  (aH))
  (aA (gb (jc (aa (ah 0) ai)) (eY 2 (a9 (aG 2) (a9 (aG 3) cC)))
  (cJ (cb (aM (Jr false) (aC gK (aa (ah 3) (aa (ah 2) (aa (ah 1) (aa (aS eA (aa (ah 0) ai)) ai))))) (cE .non)))
  (retS (cU (aa (ah 2) ai)))
  (aH)))
  (retS (cU ai))))
theorem jw:JF LW.dD dG:=by
  unfold LW.dD dG;exact dk (bK (ow2:=[]) (ow':=[]) (aF (ow2:=[]) (bI (rY (ig (gp (JE.one (bp nQ (aD au (aD (JE.one (hV fun _=>(.ty _))) aK)))))) (ig (a8 (JE.one (AI jx jx (JE.one (AK au)) (JE.one (bp iY (aD au aK))) (JE.one (AK au)))))))
  (a6 (di (ag (hV fun _=>.non) ao)))
  aU)
  (aF (ow2:=[]) (kI (rZ (ag jv ao)) (iz (bu (aW (by decide)) (bu (aW (by decide)) fV)))
  (bI (a8 (JE.one (aE Ik (JE.one (aL qg (ag jv (ag jv (ag jv (ag (bp iY (aD au aK)) ao)))))) (JE.one (hV fun _=>.non)))))
  (a6 (di (ag jv ao)))
  aU))
  (a6 (di ao)))) (by decide))
noncomputable def eQ:jS:=dW 4 2 (
  retS (aS bH (aa (bj (jc (aa (ah 0) ai)) (eY 2 (a9 (aG 2) (a9 (aG 3) cC))) (b9) (aC gK (aa (ah 3) (aa (ah 2) (aa (ah 1) (aa (aS eA (aa (ah 0) ai)) ai))))) [2,3]) ai)))
theorem kG:JF LW.eO eQ:=by
  unfold LW.eO eQ;exact dk (bK (ow2:=[]) (ow':=[]) (a6 (bp et (aD (JE.one (JN.je (dX (JE.src (rZ (ag jv ao))) (iz (bu (aW (by decide)) (bu (aW (by decide)) fV))) gq (aL qg (ag jv (ag jv (ag jv (ag (bp iY (aD au aK)) ao))))) (by decide)))) aK))) (by decide))
noncomputable def de:jS:=dW 5 4 (
  aA (bf 4 (aC dG (aa (ah 1) (aa (cE (.str [101,97,99,104])) ai))))
  (aA (cJ (eV (ah 4))
  (cO "InvalidEach" "index" (aa (aM gn (ah 4) (cE (.int 0))) ai))
  (aH))
  (aA (bf 4 (aC dG (aa (ah 2) (aa (cE (.str [112,105,101,99,101])) ai))))
  (aA (cJ (eV (ah 4))
  (cO "InvalidPiece" "index" (aa (aM gn (ah 4) (cE (.int 0))) ai))
  (aH))
  (aA (bf 4 (aC dG (aa (ah 3) (aa (cE (.str [108,97,115,116])) ai))))
  (aA (cJ (eV (ah 4))
  (cO "InvalidLast" "index" (aa (aM gn (ah 4) (cE (.int 0))) ai))
  (aH))
  (aA (dh (jb [(cE (.str [101,97,99,104]),ah 1),(cE (.str [112,105,101,99,101]),ah 2),(cE (.str [108,97,115,116]),ah 3)]) (hX ["Reader"] "parts" (ah 0)))
  (aA (dh (jb [(cE (.str [101,97,99,104]),aC eQ (aa (ah 1) (aa (cE (.str [101,97,99,104])) ai))),(cE (.str [112,105,101,99,101]),aC eQ (aa (ah 2) (aa (cE (.str [112,105,101,99,101])) ai))),(cE (.str [108,97,115,116]),aC eQ (aa (ah 3) (aa (cE (.str [108,97,115,116])) ai)))]) (hX ["Reader"] "steps" (ah 0)))
  (aA (dh (cU (fG (ah 1) (fG (ah 2) (fG (ah 3) ai)))) (hX ["Reader"] "whole" (ah 0)))
  (dh (dy .str joinM (cE (.str [10])) (aa (aP (aa (cE (.str [101,97,99,104])) (fG (ah 1) (aa (cE (.str [112,105,101,99,101])) (fG (ah 2) (aa (cE (.str [108,97,115,116])) (fG (ah 3) ai))))))) ai)) (hX ["Reader"] "shown" (ah 0))))))))))))
theorem pK:JF LW.d7 de:=by
  unfold LW.d7 de;exact dk (bK (ow2:=[]) (ow':=[]) (aF (ow2:=[]) (bF (ow:=[]) (ow':=[]) (aL jw (ag jv (ag bX ao))) rfl)
  (aF (ow2:=[]) (bI (gp au)
  (gM (ag (aE cD au eR) ao))
  aU)
  (aF (ow2:=[]) (bF (ow:=[]) (ow':=[]) (aL jw (ag jv (ag bX ao))) rfl)
  (aF (ow2:=[]) (bI (gp au)
  (gM (ag (aE cD au eR) ao))
  aU)
  (aF (ow2:=[]) (bF (ow:=[]) (ow':=[]) (aL jw (ag jv (ag bX ao))) rfl)
  (aF (ow2:=[]) (bI (gp au)
  (gM (ag (aE cD au eR) ao))
  aU)
  (aF (ow2:=[]) (fN (JN.je (xo (iI bX jv (iI bX jv (iI bX jv xq))))) (mP au))
  (aF (ow2:=[]) (fN (JN.je (xo (iI bX (aL kG (ag jv (ag bX ao))) (iI bX (aL kG (ag jv (ag bX ao))) (iI bX (aL kG (ag jv (ag bX ao))) xq))))) (mP au))
  (aF (ow2:=[]) (fN (di (jV au (jV au (jV au ao)))) (mP au))
  (fN (iy jW kn (aD (JE.one (JN.je (aV (ag bX (jV au (ag bX (jV au (ag bX (jV au ao))))))))) aK)) (mP au))))))))))) (by decide))
noncomputable def f9:jS:=dW 1 1 (
  retS (uC "Reader" de (aa (aS bH (aa (aM gn (ah 0) (cE (.int 0))) ai)) (aa (aS bH (aa (aM gn (ah 0) (cE (.int 1))) ai)) (aa (aS bH (aa (aM gn (ah 0) (cE (.int 2))) ai)) ai)))))
theorem uk:JF LW.fZ f9:=by
  unfold LW.fZ f9;exact dk (bK (ow2:=[]) (ow':=[]) (a6 (AJ pK (ag (bp et (aD (JE.one (aE cD au eR)) aK)) (ag (bp et (aD (JE.one (aE cD au eR)) aK)) (ag (bp et (aD (JE.one (aE cD au eR)) aK)) ao))))) (by decide))
noncomputable def dF:jS:=dW 1 1 (
  cJ (hW (eV (aS (ei ["Reader"]) (aa (ah 0) (aa (cE (.glo "Reader")) ai)))))
  (cO "NotAReader" "given" (aa (ah 0) ai))
  (aH))
theorem nN:JF LW.dC dF:=by
  unfold LW.dC dF;exact dk (bK (ow2:=[]) (ow':=[]) (bI (ig (gp (JE.one (bp nQ (aD au (aD (JE.one (hV fun _=>(.glo _))) aK))))))
  (gM (ag jv ao))
  aU) (by decide))
noncomputable def gT:jS:=dW 2 1 (
  retS (tq (aS (ei ["Reader"]) (aa (ah 0) (aa (cE (.ty "str")) ai))) (aS allB (aa (bj (dZ (ah 0)) (aG 1) (b9) (CJ (aM (iW false) (ah 1) (cE (.str [97,98,99,100,101,102,103,104,105,106,107,108,109,110,111,112,113,114,115,116,117,118,119,120,121,122]))) (aM (iW false) (ah 1) (cU (aa (cE (.str [59])) (aa (cE (.str [44])) ai))))) [1]) ai))))
theorem vW:JF LW.gR gT:=by
  unfold LW.gR gT;exact dk (bK (ow2:=[]) (ow':=[]) (a6 (Gg (bp nQ (aD au (aD (JE.one (hV fun _=>(.ty _))) aK))) (bp Ge (aD (JE.one (JN.je (dX (JE.src (g9 jv)) (aW (by decide)) gq (EY (aE jy au kn) (aE jy au (JE.one (di (ag bX (ag bX ao)))))) (by decide)))) aK)))) (by decide))
noncomputable def dE:jS:=dW 3 1 (
  aA (cJ (hW (eV (aS (ei ["Reader"]) (aa (ah 0) (aa (cE (.ty "tuple")) ai)))))
  (cO "InvalidPieces" "index" (aa (cE .non) ai))
  (aH))
  (gb (jc (aa (ah 0) ai)) (eY 2 (a9 (aG 1) (a9 (aG 2) cC)))
  (cJ (hW (eV (aC gT (aa (ah 2) ai))))
  (cO "InvalidPieces" "index" (aa (ah 1) ai))
  (aH))))
theorem nM:JF LW.dB dE:=by
  unfold LW.dB dE;exact dk (bK (ow2:=[]) (ow':=[]) (aF (ow2:=[]) (bI (ig (gp (JE.one (bp nQ (aD au (aD (JE.one (hV fun _=>(.ty _))) aK))))))
  (gM (ag (hV fun _=>.non) ao))
  aU)
  (kI (rZ (ag jv ao)) (iz (bu (aW (by decide)) (bu (aW (by decide)) fV)))
  (bI (ig (gp (JE.one (aL vW (ag jv ao)))))
  (gM (ag jv ao))
  aU))) (by decide))
noncomputable def k7:jS:=dW 4 4 (
  aA (cJ (cb (aM kj (ah 0) (cE (.str [101,110,100]))))
  (retS (aM kj (ah 1) (cE (.str [59]))))
  (aH))
  (aA (cJ (cb (aM kj (ah 0) (cE (.str [109,97,114,107]))))
  (retS (aM kj (ah 1) (cE (.str [44]))))
  (aH))
  (retS (pC (cb (aM kj (ah 0) (cE (.str [101,109,112,116,121])))) (aM kj (ah 2) (cE (.str []))) (ah 3)))))
theorem Du:JF LW.kZ k7:=by
  unfold LW.kZ k7;exact dk (bK (ow2:=[]) (ow':=[]) (aF (ow2:=[]) (bI (a8 (JE.one (aE cQ au kn)))
  (a6 (aE cQ au kn))
  aU)
  (aF (ow2:=[]) (bI (a8 (JE.one (aE cQ au kn)))
  (a6 (aE cQ au kn))
  aU)
  (a6 (qh (a8 (JE.one (aE cQ au kn))) (aE cQ au kn) jv)))) (by decide))
noncomputable def m8:jS:=dW 1 1 (
  retS (pC (cb (aM kj (oW (ah 0) (dR (kd (cE (.int 1)))) (jd)) (cE (.str [44])))) (oW (ah 0) (jd) (dR (kd (cE (.int 1))))) (ah 0)))
theorem Ga:JF LW.m5 m8:=by
  unfold LW.m5 m8;exact dk (bK (ow2:=[]) (ow':=[]) (a6 (qh (a8 (JE.one (aE cQ (JE.one (nS au (iZ (JE.one (nR eR))) nT)) kn))) (nS au nT (iZ (JE.one (nR eR)))) jv)) (by decide))
noncomputable def ji:jS:=dW 9 4 (
  aA (mG [4,5,6] (aa (cE (.int 0)) (aa (aP ai) (aa (cE (.bl false)) ai))))
  (aA (kY (cb (aM Js (ah 4) (aS eA (aa (ah 0) ai))))
  (aA (bf 7 (aM gn (ah 0) (ah 4)))
  (aA (bf 8 (aM gn (ah 7) (cE (.int 0))))
  (aA (mD 4 ub (cE (.int 1)))
  (cJ (uK (cb (aM kj (ah 8) (cE (.str [103,111])))) (kc (cb (aM kj (aS eA (aa (ah 7) ai)) (cE (.int 2)))) (eV (aC k7 (aa (ah 8) (aa (ah 1) (aa (ah 2) (aa (ah 3) ai))))))))
  (bf 4 (aM gn (ah 7) (cE (.int 1))))
  (cJ (cb (aM kj (aS eA (aa (ah 7) ai)) (cE (.int 1))))
  (aA (cJ (kc (cb (aM kj (ah 8) (cE (.str [97,100,100])))) (kc (cb (aM wg (ah 1) (cE (.str [59])))) (hW (eV (ah 6)))))
  (mG [2,6] (aa (aM addW (ah 2) (ah 1)) (aa (cE (.bl true)) ai)))
  (aH))
  (aA (cJ (cb (aM (iW false) (ah 8) (cU (aa (cE (.str [116,101,108,108])) (aa (cE (.str [116,101,108,108,32,98,97,114,101])) ai)))))
  (z6 5 (aa (pC (cb (aM kj (ah 8) (cE (.str [116,101,108,108])))) (ah 2) (aC m8 (aa (ah 2) ai))) ai))
  (aH))
  (aA (cJ (cb (aM (iW false) (ah 8) (cU (aa (cE (.str [116,101,108,108])) (aa (cE (.str [116,101,108,108,32,98,97,114,101])) (aa (cE (.str [99,108,101,97,114])) ai))))))
  (bf 2 (cE (.str [])))
  (aH))
  (cJ (cb (aM (iW false) (ah 8) (cU (aa (cE (.str [111,110])) (aa (cE (.str [111,102,102])) ai)))))
  (bf 3 (aM kj (ah 8) (cE (.str [111,110]))))
  (aH)))))
  (aH)))))))
  (retS (cU (aa (ah 2) (aa (ah 3) (aa (ah 5) ai)))))))
theorem vV:JF LW.kq ji:=by
  unfold LW.kq ji;exact dk (bK (ow2:=[]) (ow':=[]) (aF (ow2:=[5]) (xt (ow:=[]) (ow':=[5]) (fy mO (AL (aV ao) (fy (hV fun _=>(.bl _)) kH))) rfl)
  (aF (ow2:=[5]) (AS (a8 (JE.one (aE jx au (JE.one (bp iY (aD au aK))))))
  (aF (ow2:=[5]) (bF (ow:=[5]) (ow':=[5]) (aE cD au au) rfl)
  (aF (ow2:=[5]) (bF (ow:=[5]) (ow':=[5]) (aE cD au eR) rfl)
  (aF (ow2:=[5]) (Gj (by decide) Dz eR)
  (bI (rY (a8 (JE.one (aE cQ au kn))) (lq (a8 (JE.one (aE cQ (JE.one (bp iY (aD au aK))) eR))) (gp (JE.one (aL Du (ag jv (ag jv (ag jv (ag jv ao)))))))))
  (bF (ow:=[5]) (ow':=[5]) (aE cD au eR) rfl)
  (bI (a8 (JE.one (aE cQ (JE.one (bp iY (aD au aK))) eR)))
  (aF (ow2:=[5]) (bI (lq (a8 (JE.one (aE cQ au kn))) (lq (a8 (JE.one (aE qj au kn))) (ig (gp au))))
  (lu (ow:=[5]) (ow':=[5]) (fy (aE bV au au) (fy (hV fun _=>(.bl _)) kH)) rfl)
  aU)
  (aF (ow2:=[5]) (bI (a8 (JE.one (aE jy au (JE.one (di (ag bX (ag bX ao)))))))
  (Gi (by decide) (ag (qh (a8 (JE.one (aE cQ au kn))) jv (aL Ga (ag jv ao))) ao))
  aU)
  (aF (ow2:=[5]) (bI (a8 (JE.one (aE jy au (JE.one (di (ag bX (ag bX (ag bX ao))))))))
  (bF (ow:=[5]) (ow':=[5]) bX rfl)
  aU)
  (bI (a8 (JE.one (aE jy au (JE.one (di (ag bX (ag bX ao)))))))
  (bF (ow:=[5]) (ow':=[5]) (aE cQ au kn) rfl)
  aU))))
  aU))))))
  (Gk (ow2:=[]) (a6 (di (ag jv (ag jv (ag jv ao))))) (by decide)))) (by decide))
noncomputable def gW:jS:=dW 8 2 (
  aA (mG [3,4,5] (aa (cE (.str [])) (aa (cE (.bl false)) (aa (aP ai) ai))))
  (aA (gb (dZ (ah 1)) (aG 2)
  (aA (gb (dZ (ah 2)) (aG 6)
  (aA (dh (aC ji (aa (aM gn (gA [("Reader",.fld)] "steps" (ah 0)) (cE (.str [101,97,99,104]))) (aa (ah 6) (aa (ah 3) (aa (ah 4) ai))))) (eY 3 (a9 (aG 3) (a9 (aG 4) (a9 (aG 7) cC)))))
  (vR 5 (ah 7))))
  (aA (dh (aC ji (aa (aM gn (gA [("Reader",.fld)] "steps" (ah 0)) (cE (.str [112,105,101,99,101]))) (aa (cE (.str [])) (aa (ah 3) (aa (ah 4) ai))))) (eY 3 (a9 (aG 3) (a9 (aG 4) (a9 (aG 7) cC)))))
  (vR 5 (ah 7)))))
  (aA (dh (aC ji (aa (aM gn (gA [("Reader",.fld)] "steps" (ah 0)) (cE (.str [108,97,115,116]))) (aa (cE (.str [])) (aa (ah 3) (aa (ah 4) ai))))) (eY 3 (a9 (aG 3) (a9 (aG 4) (a9 (aG 7) cC)))))
  (retS (aS bH (aa (aM addW (ah 5) (ah 7)) ai))))))
theorem vX:JF LW.gS gW:=by
  unfold LW.gS gW;exact dk (bK (ow2:=[5]) (ow':=[]) (aF (ow2:=[5]) (xt (ow:=[]) (ow':=[5]) (fy bX (fy (hV fun _=>(.bl _)) (AL (aV ao) kH))) rfl)
  (aF (ow2:=[5]) (kI (g9 jv) (aW (by decide))
  (aF (ow2:=[5]) (kI (g9 jv) (aW (by decide))
  (aF (ow2:=[5]) (fN (aL vV (ag (aE cD (JE.one (rX (rV rW) jv)) kn) (ag jv (ag jv (ag jv ao))))) (iz (bu (aW (by decide)) (bu (aW (by decide)) (bu (aW (by decide)) fV)))))
  (AQ (by decide) jv)))
  (aF (ow2:=[5]) (fN (aL vV (ag (aE cD (JE.one (rX (rV rW) jv)) kn) (ag bX (ag jv (ag jv ao))))) (iz (bu (aW (by decide)) (bu (aW (by decide)) (bu (aW (by decide)) fV)))))
  (AQ (by decide) jv))))
  (aF (ow2:=[5]) (fN (aL vV (ag (aE cD (JE.one (rX (rV rW) jv)) kn) (ag bX (ag jv (ag jv ao))))) (iz (bu (aW (by decide)) (bu (aW (by decide)) (bu (aW (by decide)) fV)))))
  (a6 (bp et (aD (JE.one (aE bV au au)) aK)))))) (by decide))
noncomputable def iR:jS:=dW 2 2 (
  aA (fu (aC dF (aa (ah 0) ai)))
  (aA (fu (aC dE (aa (ah 1) ai)))
  (retS (aC gW (aa (ah 0) (aa (ah 1) ai))))))
theorem rT:JF LW.iQ iR:=by
  unfold LW.iQ iR;exact dk (bK (ow2:=[]) (ow':=[]) (aF (ow2:=[]) (xr (JE.one (aL nN (ag jv ao))))
  (aF (ow2:=[]) (xr (JE.one (aL nM (ag jv ao))))
  (a6 (aL vX (ag jv (ag jv ao)))))) (by decide))
noncomputable def bT:jS:=dW 6 2 (
  aA (dh (cU (aa (cE (.str [97,98,99,100,101,102,103,104,105,106,107,108,109,110,111,112,113,114,115,116,117,118,119,120,121,122])) (aa (cE (.str [])) ai))) (eY 2 (a9 (aG 3) (a9 (aG 4) cC))))
  (aA (gb (dZ (ah 0)) (aG 2)
  (aA (bf 5 (pC (cb (aM (iW false) (ah 2) (ah 3))) (aM gn (ah 3) (aM se (aS gG (aa (aM addW (dy .str fD (ah 3) (aa (ah 2) ai)) (ah 1)) ai)) (cE (.int 26)))) (ah 2)))
  (bf 4 (aM addW (ah 4) (ah 5)))))
  (retS (ah 4))))
theorem iG:JF LW.cz bT:=by
  unfold LW.cz bT;exact dk (bK (ow2:=[]) (ow':=[]) (aF (ow2:=[]) (fN (di (ag bX (ag bX ao))) (iz (bu (aW (by decide)) (bu (aW (by decide)) fV))))
  (aF (ow2:=[]) (kI (g9 jv) (aW (by decide))
  (aF (ow2:=[]) (bF (ow:=[]) (ow':=[]) (qh (a8 (JE.one (aE jy au au))) (aE cD au (JE.one (aE r9 (JE.one (bp nO (aD (JE.one (aE bV (JE.one (iy yJ au (aD au aK))) au)) aK))) eR))) jv) rfl)
  (bF (ow:=[]) (ow':=[]) (aE bV au au) rfl)))
  (a6 jv))) (by decide))
noncomputable def gF:jS:=dW 15 1 (
  aA (gb (fB (aa (cE (.int 3)) ai)) (aG 1)
  (aA (mG [4,5] (aa (aC e8 (aa (ah 0) ai)) (aa (aC ee (aa (ah 0) ai)) ai)))
  (aA (dh (cU (aa (aC f9 (aa (ah 4) ai)) (aa (aM addW (cE (.int 1)) (aC bD (aa (ah 0) (aa (cE (.int 25)) ai)))) ai))) (eY 2 (a9 (aG 6) (a9 (aG 7) cC))))
  (aA (dh (cU (aa (aC iR (aa (ah 6) (aa (ah 5) ai))) (aa (dy .str joinM (cE (.str [])) (aa (ah 5) ai)) ai))) (eY 2 (a9 (aG 8) (a9 (aG 9) cC))))
  (aA (bf 2 (aC iR (aa (ah 6) (aa (aS bH (aa (bj (dZ (ah 5)) (aG 14) (b9) (aC bT (aa (ah 14) (aa (ah 7) ai))) [14]) ai)) ai))))
  (aA (cJ (cb (aM wg (aS dQ (aa (ah 2) ai)) (aS dQ (aa (aS bH (aa (bj (dZ (ah 8)) (aG 13) (b9) (aC bT (aa (ah 13) (aa (ah 7) ai))) [13]) ai)) ai))))
  (retS (cE (.bl false)))
  (aH))
  (aA (cJ (eV (aS anyB (aa (bj (dZ (dy .str joinM (cE (.str [])) (aa (ah 8) ai))) (aG 12) (b9) (aM KJ (dy .str eJ (dy .str joinM (cE (.str [])) (aa (ah 8) ai)) (aa (ah 12) ai)) (dy .str eJ (ah 9) (aa (ah 12) ai))) [12]) ai)))
  (retS (cE (.bl false)))
  (aH))
  (aA (cJ (cb (aM wg (bj (dZ (ah 8)) (aG 13) (cb (aM (iW false) (cE (.str [59])) (ah 13))) (ah 13) [13]) (aP ai)))
  (retS (cE (.bl false)))
  (aH))
  (aA (bf 3 (aM addW (aM addW (aM gn (ah 4) (cE (.int 0))) (aM gn (ah 4) (cE (.int 1)))) (aM gn (ah 4) (cE (.int 2)))))
  (cJ (hW (eV (aS anyB (aa (bj (dZ (ah 3)) (aG 13) (b9) (CJ (aM qV (cE (.str [109,97,114,107])) (ah 13)) (aM qV (cE (.str [98,97,114,101])) (ah 13))) [13]) ai))))
  (aA (bf 10 (aS bH (aa (bj (dZ (ah 5)) (aG 14) (b9) (jM (ah 14) [44] [113]) [14]) ai)))
  (aA (bf 11 (aS bH (aa (bj (dZ (ah 8)) (aG 13) (b9) (jM (ah 13) [44] [113]) [13]) ai)))
  (cJ (cb (aM wg (aS dQ (aa (aC iR (aa (ah 6) (aa (ah 10) ai))) ai)) (aS dQ (aa (ah 11) ai))))
  (retS (cE (.bl false)))
  (aH))))
  (aH)))))))))))
  (retS (cE (.bl true))))
theorem rR:JF LW.dU gF:=by
  unfold LW.dU gF;exact dk (bK (ow2:=[]) (ow':=[]) (aF (ow2:=[]) (kI (lr (aD eR aK)) (aW (by decide))
  (aF (ow2:=[]) (lu (ow:=[]) (ow':=[]) (fy (aL rQ (ag jv ao)) (fy (aL pL (ag jv ao)) kH)) rfl)
  (aF (ow2:=[]) (fN (di (ag (aL uk (ag jv ao)) (ag (aE bV eR (JE.one (aL cx (ag jv (ag mO ao))))) ao))) (iz (bu (aW (by decide)) (bu (aW (by decide)) fV))))
  (aF (ow2:=[]) (fN (di (ag (aL rT (ag jv (ag jv ao))) (ag (iy jW kn (aD au aK)) ao))) (iz (bu (aW (by decide)) (bu (aW (by decide)) fV))))
  (aF (ow2:=[]) (bF (ow:=[]) (ow':=[]) (aL rT (ag jv (ag (bp et (aD (JE.one (JN.je (dX (JE.src (g9 jv)) (aW (by decide)) gq (aL iG (ag jv (ag jv ao))) (by decide)))) aK)) ao))) rfl)
  (aF (ow2:=[]) (bI (a8 (JE.one (aE qj (JE.one (bp mN (aD au aK))) (JE.one (bp mN (aD (JE.one (bp et (aD (JE.one (JN.je (dX (JE.src (g9 jv)) (aW (by decide)) gq (aL iG (ag jv (ag jv ao))) (by decide)))) aK))) aK))))))
  (a6 (hV fun _=>(.bl _)))
  aU)
  (aF (ow2:=[]) (bI (gp (JE.one (bp AG (aD (JE.one (JN.je (dX (JE.src (g9 (iy jW kn (aD au aK)))) (aW (by decide)) gq (aE jx (JE.one (iy qi (JE.one (iy jW kn (aD au aK))) (aD au aK))) (JE.one (iy qi au (aD au aK)))) (by decide)))) aK))))
  (a6 (hV fun _=>(.bl _)))
  aU)
  (aF (ow2:=[]) (bI (a8 (JE.one (aE qj (JE.one (JN.je (dX (JE.src (g9 jv)) (aW (by decide)) (a8 (JE.one (aE jy kn au))) jv (by decide)))) (JE.one (JN.je (aV ao))))))
  (a6 (hV fun _=>(.bl _)))
  aU)
  (aF (ow2:=[]) (bF (ow:=[]) (ow':=[]) (aE bV (JE.one (aE bV (JE.one (aE cD au eR)) (JE.one (aE cD au eR)))) (JE.one (aE cD au eR))) rfl)
  (bI (ig (gp (JE.one (bp AG (aD (JE.one (JN.je (dX (JE.src (g9 jv)) (aW (by decide)) gq (EY (aE xp kn au) (aE xp kn au)) (by decide)))) aK)))))
  (aF (ow2:=[]) (bF (ow:=[]) (ow':=[]) (bp et (aD (JE.one (JN.je (dX (JE.src (g9 jv)) (aW (by decide)) gq (xn au) (by decide)))) aK)) rfl)
  (aF (ow2:=[]) (bF (ow:=[]) (ow':=[]) (bp et (aD (JE.one (JN.je (dX (JE.src (g9 jv)) (aW (by decide)) gq (xn au) (by decide)))) aK)) rfl)
  (bI (a8 (JE.one (aE qj (JE.one (bp mN (aD (JE.one (aL rT (ag jv (ag jv ao)))) aK))) (JE.one (bp mN (aD au aK))))))
  (a6 (hV fun _=>(.bl _)))
  aU)))
  aU))))))))))
  (a6 (hV fun _=>(.bl _)))) (by decide))
end LP

namespace LP
open PySem PQ
open UL (digits joinL S cutU)
open PyProof.Rows (split_weight)
def Sg (r:G) (g:G):Prop:=∃ a b c:Int,g=.lst [.int a,.int b,.int c]::r/\0<=a/\0<=b/\b < 2147483647/\0<=c
theorem Co {b:Int} (h0:0<=b) (h1:b < 4294967296):UL.small64 b=true:=by
  unfold UL.small64;simp only[Bool.and_eq_true,decide_eq_true_eq];omega
theorem Bc {d:Int} (h:0<=d):∃ k:Nat,d=(k:Int):=⟨d.toNat,by omega⟩
theorem AE {ws:List W} {r:G} {i:Int}:gn (.d6 0) (.int i) (.lst ws::r)=L2.atI ws i:=Dl (k:=0) (ws:=ws) rfl
theorem ft {r g:G} {n:Int} (s:Sg r g) (h1:1<=n) (h2:n<=1000000):aQ (bD [.d6 0,.int n] g) fun u g'=>∃ k:Nat,u=.int k/\(k:Int) < n/\Sg r g':=by
  obtain⟨a,b,c,rfl,a0,b0,bM,c0⟩:=s;unfold bD;have m0:0<=(b * 69621 + 40503 * (c + 1) + 1) % 2147483647:=Int.emod_nonneg _ (by decide)
  have m1:(b * 69621 + 40503 * (c + 1) + 1) % 2147483647 < 2147483647:=Int.emod_lt_of_pos _ (by decide)
  have k2:L2.ixN 3 2=some 2:=rfl;have k1:L2.ixN 3 1=some 1:=rfl;have k0:L2.ixN 3 0=some 0:=rfl;simp[ax,BA,AE,k2,k1,k0,Ba (show UL.small64 69621=true by decide),GA (show UL.small64 40503=true by decide),lz (show(0:Int) < 2147483647 by decide)]
  generalize hb:(b * 69621 + 40503 * (c + 1) + 1) % 2147483647=b' at m0 m1 ⊢
  split
  . simp[tO (i:=a) (j:=n) (by omega) (by omega)]
    obtain⟨k,hk⟩:=Bc (Int.emod_nonneg a (show n≠0 by omega))
    exact⟨k,by rw[hk],by rw[<- hk];exact Int.emod_lt_of_pos _ (by omega),a / n,b',c + 1,rfl,Int.ediv_nonneg a0 (by omega),m0,m1,by omega⟩
  . simp[Ba (Co m0 (by omega)),lz (show(0:Int) < 2147483629 by decide),yC (show(0:Int) < 256 by decide) (by decide),lz (show 0 < n by omega)]
    obtain⟨k,hk⟩:=Bc (Int.emod_nonneg (((b' + 12345) * b' + (c + 1)) % 2147483629 / 256) (show n≠0 by omega))
    exact⟨k,by rw[hk],by rw[<- hk];exact Int.emod_lt_of_pos _ (by omega),a,b',c + 1,rfl,a0,m0,m1,by omega⟩
theorem hI {r g:G} {us:List W} (s:Sg r g) (h1:1<=us.length) (h2:us.length<=1000000):aQ (bE [.d6 0,.lst us] g) fun u g'=>u∈us/\Sg r g':=by
  unfold bE;simp;refine(ft s (by omega) (by omega)).mono ?_
  rintro u g' ⟨k,rfl,hk,s'⟩;rw[Dm,atI_nat (by omega)]
  simp[s']
theorem GF {r g:G} {z:List Nat} (s:Sg r g) (h1:1<=z.length) (h2:z.length<=1000000):aQ (bE [.d6 0,.str z] g) fun u g'=>(∃ x∈z,u=.str [x])/\Sg r g':=by
  unfold bE;simp;refine⟨by omega,?_⟩
  refine(ft s (by omega) (by omega)).mono ?_
  rintro u g' ⟨k,rfl,hk,s'⟩;rw[Dq,if_pos (by omega),atI_nat (by omega)]
  simp[s']

def bP (r:Rw):W:=.str r.text
def bB (rs:List Rw):W:=.lst (rs.map bP)
theorem xh {r g:G} {at_ many:Nat} (s:Sg r g) (h1:at_ < many) (h2:many<=1000):aQ (eW [.d6 0,.int at_,.int many] g) fun u g'=>(∃ n:Nat,u=.str (digits n)/\at_ < n/\n<=many)/\Sg r g':=by
  unfold eW;simp;refine(ft s (by omega) (by omega)).mono ?_
  rintro u g' ⟨k,rfl,hk,s'⟩;have e:((at_:Int) + 1 + (k:Int))=((at_ + 1 + k:Nat):Int):=by omega
  simp only[k8,aY,e];rw[vf (by omega) (by omega)]
  exact⟨⟨at_ + 1 + k,rfl,by omega,by omega⟩,s'⟩
theorem BZ {r g:G} {at_ many:Nat} {z:List Nat} (s:Sg r g) (h1:at_ < many) (h2:many<=1000):aQ (fJ [.d6 0,.int at_,.str z,.int many] g) fun u g'=>(∃ rw:Rw,u=bP rw/\rw.ok (iX z) at_ many)/\Sg r g':=by
  unfold fJ;simp[ax];refine(ft s (by decide) (by decide)).mono ?_
  rintro u g1 ⟨d,rfl,hd,s1⟩;simp;split
  . refine(hI s1 (by simp) (by simp)).mono ?_
    rintro u g2 ⟨hu,s2⟩
    have fin:aQ (eW [.d6 0,.int at_,.int many] g2) fun w g'=>gv (addW u w g') fun x=>(∃ rw:Rw,x=bP rw/\rw.ok (iX z) at_ many)/\Sg r g':=by
      refine(xh s2 h1 h2).mono ?_;rintro w g4 ⟨⟨n,rfl,n1,n2⟩,s4⟩;have dl:=fK n (by omega)
      simp at hu;rcases hu with rfl | rfl | rfl
      . rw[jk,if_pos (by simp;omega)]
        exact⟨⟨.ifgo .empty n,rfl,⟨n1,n2⟩,trivial⟩,s4⟩
      . rw[jk,if_pos (by simp;omega)]
        exact⟨⟨.ifgo .on n,rfl,⟨n1,n2⟩,trivial⟩,s4⟩
      . rw[jk,if_pos (by simp;omega)]
        exact⟨⟨.go n,rfl,n1,n2⟩,s4⟩
    split
    . rename_i hz
      split
      . refine(hI s2 (by simp) (by simp)).mono ?_
        rintro u3 g3 ⟨hu3,s3⟩;refine(xh s3 h1 h2).mono ?_;rintro w g4 ⟨⟨n,rfl,n1,n2⟩,s4⟩;have dl:=fK n (by omega)
        simp at hu3;rcases hu3 with rfl | rfl
        . rw[jk,if_pos (by simp;omega)]
          exact⟨⟨.ifgo .end_ n,rfl,⟨n1,n2⟩,by rw[hz];rfl⟩,s4⟩
        . rw[jk,if_pos (by simp;omega)]
          exact⟨⟨.ifgo .mark n,rfl,⟨n1,n2⟩,by rw[hz];rfl⟩,s4⟩
      . exact fin
    . exact fin
  . split
    . refine(hI s1 (by simp) (by simp)).mono ?_
      rintro u g2 ⟨hu,s2⟩;simp at hu;rcases hu with rfl | rfl | rfl | rfl
      . exact⟨⟨.tell,rfl,trivial⟩,s2⟩
      . exact⟨⟨.tellBare,rfl,trivial⟩,s2⟩
      . exact⟨⟨.clear,rfl,trivial⟩,s2⟩
      . exact⟨⟨.tell,rfl,trivial⟩,s2⟩
    . split
      . refine(hI s1 (by simp) (by simp)).mono ?_
        rintro u g2 ⟨hu,s2⟩;simp at hu;rcases hu with rfl | rfl
        . exact⟨⟨.on,rfl,trivial⟩,s2⟩
        . exact⟨⟨.off,rfl,trivial⟩,s2⟩
      . split
        . rename_i hz
          exact⟨⟨.add,rfl,by rw[hz];rfl⟩,s1⟩
        . refine(hI s1 (by simp) (by simp)).mono ?_
          rintro u g2 ⟨hu,s2⟩;simp at hu;rcases hu with rfl | rfl | rfl | rfl | rfl
          . exact⟨⟨.tell,rfl,trivial⟩,s2⟩
          . exact⟨⟨.tellBare,rfl,trivial⟩,s2⟩
          . exact⟨⟨.clear,rfl,trivial⟩,s2⟩
          . exact⟨⟨.on,rfl,trivial⟩,s2⟩
          . exact⟨⟨.off,rfl,trivial⟩,s2⟩
theorem qF {n:Nat} {x:W} (h:x∈cI 0 n):∃ i:Nat,x=.int i/\i < n:=by
  unfold cI at h;obtain⟨i,hi,rfl⟩:=List.mem_map.mp h;exact⟨i,by simp,List.mem_range.mp hi⟩
theorem ng {R:Nat->W->Prop}:∀ {n k:Nat} {ys:List W},ko (fun x y=>∀ i:Nat,x=.int i->R i y) ((List.range' k n).map fun i:Nat=>W.int (i:Int)) ys->ys.length=n/\∀ i y,ys[i]?=some y->R (k + i) y
  | 0,k,ys,h=>by
    cases h
    exact⟨rfl,fun i y e=>by simp at e⟩
  | n + 1,k,ys,h=>by
    rw[List.range'_succ,List.map_cons] at h;cases h with
    | cons a b=>
      obtain⟨c,d⟩:=ng b;refine⟨by simp[c],fun i y e=>?_⟩
      cases i with
      | zero=>simp at e;subst e;exact a k rfl
      | succ i=>
        have:=d i y (by simpa using e)
        rw[show k + (i + 1)=k + 1 + i by omega]
        exact this
theorem BW (n:Nat):cI 0 n=(List.range' 0 n).map fun i:Nat=>W.int (i:Int):=by
  unfold cI;rw[List.range_eq_range'];refine List.map_congr_left fun i _=>?_
  simp
theorem qx {each:Bool} {many:Nat}:∀ {ys:List W} {k:Nat},(∀ i y,ys[i]?=some y->∃ rw:Rw,y=bP rw/\rw.ok each (k + i) many)->∃ rs:List Rw,ys=rs.map bP/\∀ (i:Nat) (r:Rw),rs[i]?=some r->r.ok each (k + i) many
  | [],k,h=>⟨[],rfl,fun i r e=>by simp at e⟩
  | y::ys,k,h=>by
    obtain⟨rw,e,o⟩:=h 0 y rfl
    obtain⟨rs,e2,o2⟩:=qx (ys:=ys) (k:=k + 1) fun i y e=>by
      have:=h (i + 1) y (by simpa using e)
      rw[show k + 1 + i=k + (i + 1) by omega]
      exact this
    refine⟨rw::rs,by rw[e,e2];rfl,fun i r e=>?_⟩
    cases i with
    | zero=>simp at e;subst e;exact o
    | succ i=>
      have:=o2 i r (by simpa using e)
      rw[show k + (i + 1)=k + 1 + i by omega]
      exact this
theorem free_ok {r g:G} {z:List Nat} {least most:Nat} (s:Sg r g) (h1:least<=most) (h2:most<=20):aQ (bU [.d6 0,.str z,.int least,.int most] g) fun u g'=>(∃ rs,u=bB rs/\dH (iX z) rs/\least<=rs.length/\rs.length<=most)/\Sg r g':=by
  unfold bU;simp[ax];refine(ft s (by omega) (by omega)).mono ?_
  rintro u g1 ⟨k,rfl,hk,s1⟩;simp;refine l5 (Sg r) (fun x y=>∀ i:Nat,x=.int i->∃ rw:Rw,y=bP rw/\rw.ok (iX z) i (least + k)) (jG ?_)
  simp;refine⟨by omega,?_,s1,?_,?_⟩
  . simp[cI];omega
  . intro x hx g2 s2
    obtain⟨i,rfl,hi⟩:=qF hx;refine(BZ (at_:=i) (many:=least + k) (z:=z) s2 (by omega) (by omega)).mono ?_
    rintro u g3 ⟨⟨rw,rfl,ok⟩,s3⟩;exact⟨fun j e=>by cases e;exact⟨rw,rfl,ok⟩,s3⟩
  . intro ys g2 h s2
    have e:((least:Int) + (k:Int)).toNat=least + k:=by omega
    rw[e,BW] at h;obtain⟨l,q⟩:=ng h;obtain⟨rs,rfl,p⟩:=qx (k:=0) (many:=least + k) (each:=iX z) fun i y e=>q i y e
    have el:rs.length=least + k:=by simpa using l
    exact⟨⟨rs,rfl,fun i r e=>by have:=p i r e;rw[Nat.zero_add] at this;rw[el];exact this,by omega,by omega⟩,s2⟩

def c9 (e q l:List Rw):W:=.lst [bB e,bB q,bB l]
def rb (r:G) (u:W) (g:G):Prop:=∃ e q l:List Rw,u=c9 e q l/\Good3 e q l/\Sg r g
theorem dY {r g:G} (e q l:List Rw) (s:Sg r g) (h:rK e q l=true) {u:W} (hu:u=c9 e q l):rb r u g:=⟨e,q,l,hu,ua h,s⟩
theorem CU {r g:G} (s:Sg r g):aQ (f7 [.d6 0] g) (rb r):=by
  unfold f7;simp[ax];refine(ft s (by decide) (by decide)).mono ?_
  rintro u g1 ⟨d,rfl,hd,s1⟩;refine(hI s1 (by simp) (by simp)).mono ?_
  rintro u g2 ⟨hu,s2⟩
  obtain⟨wd,rfl,hw⟩:∃ wd:Rw,u=bP wd/\(wd=.tell\/wd=.tellBare):=by
    simp at hu;rcases hu with rfl | rfl
    . exact⟨.tell,rfl,.inl rfl⟩
    . exact⟨.tellBare,rfl,.inr rfl⟩
  clear hu
  simp;have fin:∀ e q l:List Rw,rK e q l=true->rb r (c9 e q l) g2:=fun e q l h=>⟨e,q,l,rfl,ua h,s2⟩
  split
  . refine dY [.ifgo .end_ 3,.add,.go 4,wd] [] [.ifgo .empty 2,wd] s2 (by rcases hw with rfl | rfl<;>decide) ?_
    simp[c9,bB,bP,B1,uU,qJ,i7]
  split
  . refine dY [.ifgo .end_ 3,.add,.go 4,wd] [.ifgo .empty 2,wd] [] s2 (by rcases hw with rfl | rfl<;>decide) ?_
    simp[c9,bB,bP,B1,uU,qJ,i7]
  split
  . refine dY [.ifgo .end_ 3,.add,.go 4,wd] [] [wd] s2 (by rcases hw with rfl | rfl<;>decide) ?_
    simp[c9,bB,bP,B1,uU,qJ,i7]
  split
  . refine dY [.ifgo .end_ 3,.add,.go 4,wd] [.off] [] s2 (by rcases hw with rfl | rfl<;>decide) ?_
    simp[c9,bB,bP,B1,uU,qJ,i7,oO]
  split
  . refine dY [.ifgo .end_ 4,.ifgo .mark 5,.add,.go 5,wd] [] [.ifgo .empty 2,wd] s2 (by rcases hw with rfl | rfl<;>decide) ?_
    simp[c9,bB,bP,IK,J9,Fe,uU,qJ,i7,oO]
  split
  . refine dY [.ifgo .end_ 5,.add,.ifgo .mark 4,.off,.go 7,.ifgo .empty 7,wd] [] [.ifgo .empty 2,wd] s2 (by rcases hw with rfl | rfl<;>decide) ?_
    simp[c9,bB,bP,J7,J8,IJ,Ka,uU,qJ,i7,oO]
  split
  . refine dY [.ifgo .end_ 4,.on,.add,.go 6,wd,.off] [] [.ifgo .on 2,.go 3,wd] s2 (by rcases hw with rfl | rfl<;>decide) ?_
    simp[c9,bB,bP,IK,II,IL,Fc,i7,oO,Ff]
  split
  . refine dY [.ifgo .end_ 3,.add,.go 5,wd,.on] [.ifgo .on 2,.go 3,.off] [.ifgo .empty 2,wd] s2 (by rcases hw with rfl | rfl<;>decide) ?_
    simp[c9,bB,bP,B1,Fe,IL,Fc,uU,i7,oO,Ff]
  . refine(hI s2 (by simp) (by simp)).mono ?_
    rintro u g4 ⟨hu,s4⟩
    obtain⟨w2,rfl,hw2⟩:∃ w2:Rw,u=bP w2/\(w2=.clear\/w2=wd):=by
      simp at hu;rcases hu with rfl | rfl
      . exact⟨.clear,rfl,.inl rfl⟩
      . exact⟨wd,rfl,.inr rfl⟩
    refine dY [.ifgo .end_ 2,.add] [.ifgo .empty 2,wd,.clear] [w2] s4 (by rcases hw2 with rfl | rfl<;>rcases hw with rfl | rfl<;>decide) ?_
    simp[c9,bB,bP,J6,uU,i7,B2]
theorem B0 {each:Bool} {rs:List Rw} (pk:dH each rs) (hl:rs.length<=20):(rs.map Rw.text).all UL.sgn=true:=by
  have key:∀ n:Fin 21,(UL.sgn (Rw.go n.val).text && (UL.sgn (Rw.ifgo .empty n.val).text && (UL.sgn (Rw.ifgo .on n.val).text && (UL.sgn (Rw.ifgo .end_ n.val).text && UL.sgn (Rw.ifgo .mark n.val).text))))=true:=by decide +kernel
  refine List.all_eq_true.mpr fun z hz=>?_
  obtain⟨r,hr,rfl⟩:=List.mem_map.mp hz;obtain⟨i,hi⟩:=List.getElem?_of_mem hr;have hs:=Rw.jI (pk i r hi) (by omega)
  cases r with
  | go n=>exact(Bool.and_eq_true_iff.mp (key ⟨n,Nat.lt_succ_of_le hs⟩)).1
  | ifgo c n=>
    have:=(Bool.and_eq_true_iff.mp (key ⟨n,Nat.lt_succ_of_le hs⟩)).2;simp only[Bool.and_eq_true] at this;cases c
    . exact this.1
    . exact this.2.1
    . exact this.2.2.1
    . exact this.2.2.2
  | _=>decide
theorem xG (rs:List Rw):rs.map bP=(rs.map Rw.text).map W.str:=by rw[List.map_map];rfl
theorem Ee {each:Bool} {rs:List Rw} {g:G} (pk:dH each rs) (hl:rs.length<=20):wg (bB rs) (.lst []) g=some (.bl (!rs.isEmpty)):=by
  unfold bB;rw[xG];have:=DE (g:=g) (xs:=rs.map Rw.text) (ys:=[]) (B0 pk hl) rfl;rw[List.map_nil] at this;rw[this];cases rs<;>simp
theorem oA {each:Bool} {rs:List Rw} {k:Nat} {r:Rw} (pk:dH each rs) (h:r.ok each k rs.length):dH each (rs.set k r):=fun i x e=>by
  rw[List.length_set]
  by_cases z:k=i
  . subst z
    have hl:k < rs.length:=by
      have:=(gEsZ.mp e).1;simpa using this
    rw[List.getElem?_set_self hl] at e;cases e
    exact h
  . rw[List.getElem?_set_ne z] at e
    exact pk i x e
def oj (w:Nat) (e q l:List Rw):List Rw:=match w with
  | 0=>e
  | 1=>q
  | _=>l
def Af (w:Nat):Bool:=w == 0
def E7 (w:Nat):List Nat:=match w with
  | 0=>iF
  | 1=>fA
  | _=>ij
def pO (w k:Nat) (r:Rw) (e q l:List Rw):List Rw × List Rw × List Rw:=match w with
  | 0=>(e.set k r,q,l)
  | 1=>(e,q.set k r,l)
  | _=>(e,q,l.set k r)
theorem Good3.nth {e q l:List Rw} (h:Good3 e q l) (w:Nat):dH (Af w) (oj w e q l)/\(oj w e q l).length<=10:=by
  have:=h.q2;have:=h.l2
  match w with
  | 0=>exact⟨h.pe,h.e2⟩
  | 1=>exact⟨h.pq,by show q.length<=10;omega⟩
  | w + 2=>exact⟨h.pl,by show l.length<=10;omega⟩
theorem Good3.set {e q l:List Rw} (h:Good3 e q l) {w k:Nat} {r:Rw} (hr:r.ok (Af w) k (oj w e q l).length):Good3 (pO w k r e q l).1 (pO w k r e q l).2.1 (pO w k r e q l).2.2:=by
  match w with
  | 0=>exact⟨oA h.pe hr,h.pq,h.pl,by simp[pO];exact h.e1,by simp[pO];exact h.e2,h.q2,h.l2⟩
  | 1=>exact⟨h.pe,oA h.pq hr,h.pl,h.e1,h.e2,by simp[pO];exact h.q2,h.l2⟩
  | w + 2=>exact⟨h.pe,h.pq,oA h.pl hr,h.e1,h.e2,h.q2,by simp[pO];exact h.l2⟩
theorem Ci {rs:List Rw} {k:Nat} {r:Rw}:(rs.map bP).set k (bP r)=(rs.set k r).map bP:=by rw[List.map_set]
theorem zr {e q l:List Rw} {w k:Nat} {r:Rw} (hw:w < 3):[bB e,bB q,bB l].set w (bB ((oj w e q l).set k r))=[bB (pO w k r e q l).1,bB (pO w k r e q l).2.1,bB (pO w k r e q l).2.2]:=by
  match w,hw with
  | 0,_=>rfl
  | 1,_=>rfl
  | 2,_=>rfl
theorem yS {e q l:List Rw} {w:Nat} (hw:w < 3):L2.atI [bB e,bB q,bB l] (w:Int)=some (bB (oj w e q l)):=by
  match w,hw with
  | 0,_=>rfl
  | 1,_=>rfl
  | 2,_=>rfl
theorem Bo {w:Nat} (hw:w < 3):L2.atI [W.str [101,97,99,104],.str [112,105,101,99,101],.str [108,97,115,116]] (w:Int)=some (.str (E7 w)):=by
  match w,hw with
  | 0,_=>rfl
  | 1,_=>rfl
  | 2,_=>rfl
theorem yB (w:Nat) (hw:w < 3):iX (E7 w)=Af w:=by
  match w,hw with
  | 0,_=>rfl
  | 1,_=>rfl
  | 2,_=>rfl
theorem E9 {u:W} (h:u∈[W.int 0,.int 0,.int 1,.int 2]):∃ w:Nat,u=.int w/\w < 3:=by
  simp at h;rcases h with rfl | rfl | rfl
  . exact⟨0,rfl,by decide⟩
  . exact⟨1,rfl,by decide⟩
  . exact⟨2,rfl,by decide⟩
structure PtI (r:G) (xs:List W) (we:cA) (g:G):Prop where
  it:∀ x∈xs,∃ i:Nat,x=.int i
  out:∃ (e q l:List Rw) (x2 x3 x4 x5 x6:Option W),we=[some (.d6 0),some (c9 e q l),x2,x3,x4,x5,x6]/\Good3 e q l/\Sg r g
theorem BN {r g:G} (s:Sg r g):aQ (e8 [.d6 0] g) (rb r):=by
  unfold e8;simp;rw[ax];simp;refine(ft s (by decide) (by decide)).mono ?_
  rintro u g1 ⟨d,rfl,hd,s1⟩;simp;split
  . rw[ax]
    simp;refine(free_ok (z:=[101,97,99,104]) (least:=1) (most:=7) s1 (by decide) (by decide)).mono ?_
    rintro u g2 ⟨⟨e,rfl,pe,e1,e2⟩,s2⟩;refine(free_ok (z:=[112,105,101,99,101]) (least:=0) (most:=3) s2 (by decide) (by decide)).mono ?_
    rintro u g3 ⟨⟨q,rfl,pq,q1,q2⟩,s3⟩;refine(free_ok (z:=[108,97,115,116]) (least:=0) (most:=4) s3 (by decide) (by decide)).mono ?_
    rintro u g4 ⟨⟨l,rfl,pl,l1,l2⟩,s4⟩;exact⟨e,q,l,rfl,⟨pe,pq,pl,e1,by omega,by omega,by omega⟩,s4⟩
  rw[ax];simp;refine(CU s1).mono ?_;rintro u g2 ⟨e,q,l,rfl,g3,s2⟩;rw[ax];refine lE (jG ?_);simp;refine(hI s2 (by simp) (by simp)).mono ?_
  rintro u g3' ⟨hu,s3⟩;obtain⟨n,rfl,hn⟩:=E9 (show u∈[W.int 0,.int 0,.int 1,.int 2] by simp at hu ⊢;exact hu)
  refine⟨n,rfl,by omega,by simp[cI];omega,PtI r,⟨fun x hx=>by obtain⟨i,hi,_⟩:=qF hx;exact⟨i,hi⟩,e,q,l,_,_,_,_,_,rfl,g3,s3⟩,?_,?_⟩
  . rintro x xs we g ⟨hx,e,q,l,x2,x3,x4,x5,x6,rfl,g3,s⟩
    rw[ax];simp;refine(hI s (by simp) (by simp)).mono ?_
    rintro u g5 ⟨hu,s5⟩;obtain⟨w,rfl,hw⟩:=E9 (show u∈[W.int 0,.int 0,.int 1,.int 2] by simp at hu ⊢;exact hu)
    rw[ax];simp[c9,yS hw];obtain⟨pk,ln⟩:=g3.nth w;rw[Ee pk (by omega)]
    simp;split
    . exact⟨fun y hy=>hx y (List.mem_cons_of_mem _ hy),e,q,l,_,_,_,_,_,rfl,g3,s5⟩
    . rename_i hne
      have h1:1<=(oj w e q l).length:=by
        cases hq:oj w e q l with
        | nil=>rw[hq] at hne;simp at hne
        | cons a b=>simp
      rw[ax];simp[bB];refine(ft s5 (by omega) (by omega)).mono ?_
      rintro u g6 ⟨k,rfl,hk,s6⟩;rw[ax];simp[Bo hw];refine(BZ (at_:=k) (many:=(oj w e q l).length) s6 (by omega) (by omega)).mono ?_
      rintro u g7 ⟨⟨rw_,rfl,ok⟩,s7⟩;rw[ax];rw[yB w hw] at ok;have hk':k < ((oj w e q l).map bP).length:=by rw[List.length_map];omega
      have ek:((k:Int) + 1)=((k + 1:Nat):Int):=by omega
      have ew:((w:Int) + 1)=((w + 1:Nat):Int):=by omega
      simp only[j5,gH,DS,bR,Bw,bA,dc,DR,yY,jD,List.set,gzZ,gsZ,aY,sx,Et,tj,k8,BL,ek,ew,Ab (Nat.le_of_lt hk'),tH (show k + 1<=((oj w e q l).map bP).length from hk'),qM hk',Ci]
      have hw':w < [bB e,bB q,bB l].length:=hw;have c1:=Ab (us:=[W.lst (e.map bP),.lst (q.map bP),.lst (l.map bP)]) (Nat.le_of_lt hw');have c2:=tH (us:=[W.lst (e.map bP),.lst (q.map bP),.lst (l.map bP)]) (k:=w + 1) hw';simp only[c1,c2,aY,tj,BL];have c3:=qM (us:=[W.lst (e.map bP),.lst (q.map bP),.lst (l.map bP)]) (x:=.lst (((oj w e q l).set k rw_).map bP)) hw';refine⟨by simp,⟨by simp;omega,⟨by simp;omega,⟨by simp,⟨by simp;omega,⟨by simp;omega,?_⟩⟩⟩⟩⟩⟩
      have:=zr (e:=e) (q:=q) (l:=l) (k:=k) (r:=rw_) hw;unfold bB at this;rw[c3,this];exact⟨fun y hy=>hx y (List.mem_cons_of_mem _ hy),_,_,_,_,_,_,_,_,rfl,g3.set ok,s7⟩
  . rintro we g ⟨_,e,q,l,x2,x3,x4,x5,x6,rfl,g3,s⟩
    simp;exact⟨e,q,l,rfl,g3,s⟩

def Rw.du:Rw->W
  | .tell=>.tup [.str [116,101,108,108]]
  | .tellBare=>.tup [.str [116,101,108,108,32,98,97,114,101]]
  | .clear=>.tup [.str [99,108,101,97,114]]
  | .on=>.tup [.str [111,110]]
  | .off=>.tup [.str [111,102,102]]
  | .add=>.tup [.str [97,100,100]]
  | .go n=>.tup [.str [103,111],.int n]
  | .ifgo c n=>.tup [.str c.name,.int n]
def fQ (rs:List Rw):W:=.tup (rs.map Rw.du)
theorem zD (r:Rw):ll r.du=some false:=by cases r<;>rfl
theorem zA {x:List Nat} {ws:List (List Nat)} (h:gx x ws=true):((Txt.split (S x) (S [32])).map fun x=>W.str x.cps.toList)=ws.map W.str:=by
  have e:=of_decide_eq_true h;rw[<- e,List.map_map];rfl
theorem wF {each:Bool} {i many:Nat} {r:Rw} {g:G} (ok:r.ok each i many) (hm:many<=20):splitM (.str r.text) [.str [32]] g=some (.lst (r.words.map W.str)):=by
  have hl:=text_len ok hm;unfold splitM;dsimp only;rw[if_pos ⟨by simp,by omega⟩,zA (zB ok hm)]
theorem nJ {n:Nat} {g:G} (hn:n<=20):gG [.str (digits n)] g=some (.int n):=by
  have:∀ n:Fin 21,(decide ((digits ((n.val:Nat):Int)).length<=640) && decide (PySem.intText? (S (digits ((n.val:Nat):Int)))=some (n.val:Int)))=true:=by decide +kernel
  have:=this ⟨n,by omega⟩
  rw[Bool.and_eq_true,decide_eq_true_eq,decide_eq_true_eq] at this;unfold gG;dsimp only;rw[if_pos this.1,this.2];rfl
theorem tZ {we:cA} {g:G} {i many:Nat} {Q:W->G->Prop} (e1:we[1]?=some (some (.int i))) (e3:we[3]?=some (some (.int many))) (hl:we.length=10) (hi:i<=many) (hm:many<=1000) (hQ:Q (.lst ((rJ i many).map W.str)) g) :
    aQ (bj (lH (aa (aM addW (ah 1) (cE (.int 1))) (aa (aM addW (ah 3) (cE (.int 1))) ai))) (aG 9) (b9) (aS lN (aa (ah 9) ai)) [9] we g) Q:=by
  refine gO (fun x=>match x with
    | .int j=>.str (digits j)
    | _=>.non) (Bz ?_)
  simp[e1,e3];have e:((many:Int) + 1 - ((i:Int) + 1)).toNat=many - i:=by omega
  refine⟨_,_,⟨rfl,rfl⟩,by omega,by simp[cI];omega,?_,?_⟩
  . intro x hx
    unfold cI at hx;obtain⟨k,hk,rfl⟩:=List.mem_map.mp hx;have:=List.mem_range.mp hk;simp[hl];rw[vf (by omega) (by omega)]
    simp
  . rw[e]
    have:((cI ((i:Int) + 1) (many - i)).map fun x=>match x with
        | .int j=>W.str (digits j)
        | _=>.non)=(rJ i many).map W.str:=by
      unfold cI rJ;rw[List.map_map,List.map_map];refine List.map_congr_left fun k _=>?_
      simp
    rw[this];exact hQ
theorem wZ {zs:List (List Nat)} {z:List Nat}:((zs.map W.str).any fun y=>lV y (.str z))=decide (z∈zs):=by
  induction zs with
  | nil=>rfl
  | cons x xs ih=>
    rw[List.map_cons,List.any_cons,ih,Ai]
    by_cases h:x=z
    . subst h;simp
    . have h2:¬ z=x:=fun e=>h e.symm
      simp[h,h2]
theorem tp (zs:List (List Nat)):(zs.map W.str).all c7=true:=List.all_eq_true.mpr fun x hx=>by
  obtain⟨z,_,rfl⟩:=List.mem_map.mp hx;rfl
theorem uc {neg:Bool} {zs:List (List Nat)} {z:List Nat} {g:G}:iW neg (.str z) (.lst (zs.map W.str)) g=some (.bl (if neg then !decide (z∈zs) else decide (z∈zs))):=by
  rw[xj,wZ,tp];rfl
theorem Au {neg:Bool} {zs:List (List Nat)} {z:List Nat} {g:G}:iW neg (.str z) (.tup (zs.map W.str)) g=some (.bl (if neg then !decide (z∈zs) else decide (z∈zs))):=by
  rw[mM,wZ,tp];rfl
theorem mZ {z:List Nat} {g:G}:ei ["Reader"] [.str z,.ty "str"] g=some (.bl true):=rfl
def j6:List (List Nat):=[[116,101,108,108],[116,101,108,108,32,98,97,114,101],[99,108,101,97,114],[111,110],[111,102,102],[97,100,100]]
theorem yi {z:List Nat} {i many:Nat} {r:Rw} {g:G} (ok:r.ok (iX z) i many) (hi:i < many) (hm:many<=20):aQ (gK [.str r.text,.int i,.str z,.int many] g) fun u g'=>u=r.du/\g'=g:=by
  have hsp:=wF (g:=g) ok hm;have hw:=Rw.jI ok hm;unfold gK;have plain:∀ zz:List Nat,iW false (.str zz) (.tup [W.str [116,101,108,108],W.str [116,101,108,108,32,98,97,114,101],W.str [99,108,101,97,114],W.str [111,110],W.str [111,102,102],W.str [97,100,100]]) g=some (.bl (decide (zz∈j6))):=fun zz=>Au (neg:=false) (zs:=j6)
  cases r with
  | go n=>
    have hn:n<=20:=hw;have dl:=fK n (by omega)
    simp[ax,mZ,plain];rw[if_neg (by simp[Rw.text,j6])]
    simp[hsp];refine tZ rfl rfl rfl (by omega) (by omega) ?_
    have ew:(Rw.go n).words.map W.str=[W.str [103,111]]++[W.str (digits n)]:=rfl;simp only[ew,tA,aY,uc,qr ok.1 ok.2,sv];simp[nJ hn];rw[show([W.str [103,111],W.str (digits n)]:List W)=[W.str [103,111]]++[W.str (digits n)] from rfl,nk]
    have hj:=iH (g:=g) (x:=[32]) (zs:=[[103,111]]) (by simp)
    simp only[List.map] at hj;rw[hj];simp[joinL,Rw.du]
  | ifgo c n=>
    have hn:n<=20:=hw;have dl:=fK n (by omega)
    simp[ax,mZ,plain];rw[if_neg (by cases c<;>simp[Rw.text,Cd.pre,j6])]
    simp[hsp];refine tZ rfl rfl rfl (by omega) (by omega) ?_
    have ew:(Rw.ifgo c n).words.map W.str=[W.str [105,102],W.str c.name,W.str [103,111]]++[W.str (digits n)]:=rfl;simp only[ew,tA,aY,uc,qr ok.1.1 ok.1.2,sv];simp;rw[show([W.str [105,102],W.str c.name,W.str [103,111],W.str (digits n)]:List W)=[W.str [105,102],W.str c.name,W.str [103,111]]++[W.str (digits n)] from rfl,nk]
    simp[nJ hn];have hj:=iH (g:=g) (x:=[32]) (zs:=[[105,102],c.name,[103,111]]) (by cases c<;>simp[Cd.name])
    simp only[List.map] at hj;rw[hj];cases c
    . simp[joinL,Cd.name,Rw.du]
    . simp[joinL,Cd.name,Rw.du]
    . have:z=[101,97,99,104]:=of_decide_eq_true ok.2
      simp[joinL,Cd.name,Rw.du,this]
    . have:z=[101,97,99,104]:=of_decide_eq_true ok.2
      simp[joinL,Cd.name,Rw.du,this]
  | add=>
    have:z=[101,97,99,104]:=of_decide_eq_true ok;simp[ax,mZ,plain,j6,Rw.text,Rw.du,this]
  | _=>simp[ax,mZ,plain,j6,Rw.text,Rw.du]

structure WrI (rs:List Rw) (z:List Nat) (g:G) (xs:List W) (we:cA) (g':G):Prop where
  out:∃ (k:Nat) (x2 x3:Option W),k<=rs.length/\xs=(gD (rs.map bP)).drop k/\we=[some (.tup (rs.map bP)),some (.str z),x2,x3]/\g'=g
theorem Ag {ws:List W} {k:Nat}:(gD ws)[k]?=ws[k]?.map fun w=>.tup [.int (k:Int),w]:=by
  unfold gD;rw[List.getElem?_map,List.getElem?_zipIdx];cases ws[k]?<;>simp
theorem drop_at {α:Type} {l:List α} {k:Nat} {x:α} {xs:List α} (h:x::xs=l.drop k):l[k]?=some x/\xs=l.drop (k + 1):=by
  constructor
  . have:=congrArg (fun l=>l[0]?) h
    simpa using this.symm
  . have:=congrArg List.tail h
    simpa using this
theorem rF {ws:List W} {k:Nat} {x:W} {xs:List W} (h:x::xs=(gD ws).drop k):∃ hk:k < ws.length,x=.tup [.int (k:Int),ws[k]]/\xs=(gD ws).drop (k + 1):=by
  obtain⟨a,b⟩:=drop_at h;rw[Ag] at a;obtain⟨w,hw,rfl⟩:=mOsZ.mp a;obtain⟨hk,rfl⟩:=gEsZ.mp hw;exact⟨hk,rfl,b⟩
theorem Di {ws:List W} {g:G}:ei ["Reader"] [.tup ws,.ty "tuple"] g=some (.bl true):=rfl
theorem lg {ws:List W}:(gD ws).length=ws.length:=by unfold gD;simp
theorem pA {z:List Nat} {rs:List Rw} {lo hi:Int} {g:G} (pk:dH (iX z) rs) (h1:[([101,97,99,104],(1:Int)),([112,105,101,99,101],0),([108,97,115,116],0)].lookup z=some lo) (h2:[([101,97,99,104],(10:Int)),([112,105,101,99,101],5),([108,97,115,116],5)].lookup z=some hi) (h3:lo<=rs.length) (h4:(rs.length:Int)<=hi) (h5:rs.length<=10) :
    aQ (dG [.tup (rs.map bP),.str z] g) fun u g'=>u=.tup []/\g'=g:=by
  unfold dG;simp;rw[ax];simp[Di,h1,h2,h3,h4];rw[ax];refine lE ?_;simp;refine⟨by rw[lg,List.length_map];omega,WrI rs z g,⟨0,none,none,Nat.zero_le _,rfl,rfl,rfl⟩,?_,?_⟩
  . rintro x xs we g' ⟨k,x2,x3,hk,hx,rfl,rfl⟩
    obtain⟨hk',rfl,rfl⟩:=rF hx;have hk2:k < rs.length:=by simpa using hk'
    simp;refine(yi (xQ pk hk2) hk2 (by omega)).mono ?_
    rintro u g2 ⟨rfl,rfl⟩;simp[zD];exact⟨k + 1,_,_,by omega,rfl,rfl,rfl⟩
  . rintro we g' ⟨k,x2,x3,hk,hx,rfl,rfl⟩
    simp
theorem o3 {z:List Nat} {rs:List Rw} {g:G} (pk:dH (iX z) rs) (h5:rs.length<=10):aQ (eQ [.tup (rs.map bP),.str z] g) fun u g'=>u=.tup (rs.map Rw.du)/\g'=g:=by
  unfold eQ;simp;refine Bu ?_;simp;refine⟨by rw[lg,List.length_map];omega,fun xs acc g'=>∃ k,k<=rs.length/\xs=(gD (rs.map bP)).drop k/\acc=(rs.take k).map Rw.du/\g'=g,⟨0,Nat.zero_le _,rfl,rfl,rfl⟩,?_,?_⟩
  . rintro x xs acc g' ⟨k,hk,hx,rfl,rfl⟩
    obtain⟨hk',rfl,rfl⟩:=rF hx;have hk2:k < rs.length:=by simpa using hk'
    simp;refine(yi (xQ pk hk2) hk2 (by omega)).mono ?_
    rintro u g2 ⟨rfl,rfl⟩;refine⟨k + 1,by omega,rfl,?_,rfl⟩
    rw[List.take_add_one,List.getElem?_map,List.getElem?_eq_getElem hk2];simp
  . rintro acc g' ⟨k,hk,hx,rfl,rfl⟩
    have hk2:k=rs.length:=by
      have:=congrArg List.length hx;rw[List.length_drop,lg,List.length_map] at this;simp at this;omega
    subst hk2;simp;omega
theorem ql:c6 []=true:=rfl
theorem qm {x:List Nat} {w:W} {r:List (W × W)}:c6 ((.str x,w)::r)=c6 r:=by
  unfold c6;rw[List.all_cons];rfl
theorem oo {we:cA} {g:G} {Q:List (W × W)->G->Prop}:aQ (eT [] we g) Q=Q [] g:=by simp[eT]
theorem oq {fk fv:PE} {ps:List (PE × PE)} {we:cA} {g:G} {Q:List (W × W)->G->Prop}:aQ (eT ((fk,fv)::ps) we g) Q=aQ (fk we g) fun k g1=>aQ (fv we g1) fun v g2=>aQ (eT ps we g2) fun r g3=>Q ((k,v)::r) g3:=by
  simp only[eT,aN,cH]
theorem uG {ps:List (PE × PE)} {we:cA} {g:G} {Q:W->G->Prop}:aQ (jb ps we g) Q=aQ (eT ps we g) fun kvs g2=>(c6 kvs=true/\kvs.length<=15)/\Q (.cq (kvs.foldl (fun acc kv=>js acc kv.1 kv.2) [])) g2:=by
  unfold jb;simp only[aN,dg,cH]
theorem qW (a b c:W):js (js (js [] (W.str [101,97,99,104]) a) (W.str [112,105,101,99,101]) b) (W.str [108,97,115,116]) c=[(.str iF,a),(.str fA,b),(.str ij,c)]:=by
  simp[js,d4,iF,fA,ij]
theorem jU {cs:List Str} {c f:Str} {k:Nat} {fs:List (Str × W)} {w:W} {we:cA} {g:G} {fo:PE} {Q:cA->G->Prop} (e:g[k]?=some (.ins c fs)) (hc:c∈cs) (hl:fs.length < 1000) (ho:aQ (fo we g) fun u g'=>u=.d6 k/\g'=g) (hQ:Q we (g.set k (.ins c (oK f w fs)))):aQ (hX cs f fo w we g) Q:=by
  unfold hX;rw[aN,eX];refine ho.mono fun u g' ⟨a,b⟩=>?_
  subst a b;simp only[e];rw[if_pos ⟨hc,hl⟩,cH];exact hQ
def jQ (f:List Rw->W) (e q l:List Rw):W:=.cq [(.str iF,f e),(.str fA,f q),(.str ij,f l)]
def ml (rs:List Rw):W:=.tup (rs.map bP)
def BX (e q l:List Rw):List (Str × W):=[("parts",jQ ml e q l),("steps",jQ fQ e q l),("whole",.tup (e.map bP++(q.map bP++l.map bP))),("shown",.str (Cj e q l))]
def mH (e q l:List Rw):W:=.ins "Reader" (BX e q l)
theorem jA {k:Nat}:∀ {ws:List W},(∀ w∈ws,i4 k w=true)->gu k ws=true
  | [],_=>rfl
  | w::ws,h=>by
    rw[gu,h w List.mem_cons_self,jA fun x hx=>h x (List.mem_cons_of_mem _ hx)]
    rfl
theorem DI {k:Nat} (rs:List Rw):gu k (rs.map bP)=true:=jA fun w hw=>by
  obtain⟨r,_,rfl⟩:=List.mem_map.mp hw;rfl
theorem Bi {k:Nat} (rs:List Rw):gu k (rs.map Rw.du)=true:=jA fun w hw=>by
  obtain⟨r,_,rfl⟩:=List.mem_map.mp hw;cases r<;>rfl
theorem xI {k:Nat}:∀ {us ws:List W},gu k us=true->gu k ws=true->gu k (us++ws)=true
  | [],_,_,h=>h
  | u::us,ws,h,h'=>by
    rw[gu,Bool.and_eq_true] at h;rw[List.cons_append,gu,h.1,xI h.2 h'];rfl
theorem DH {k:Nat} (e q l:List Rw):kK k (BX e q l)=true:=by
  simp[BX,jQ,ml,fQ,kK,Bj,i4,pN,Bl,DI,Bi,xI]
theorem J3 {a b:W}:oK "steps" b [(("parts" : Str),a)]=([("parts",a),("steps",b)]:List (Str × W)):=rfl
theorem put2 {a b c:W}:oK "whole" c [(("parts" : Str),a),("steps",b)]=([("parts",a),("steps",b),("whole",c)]:List (Str × W)):=rfl
theorem put3 {a b c d:W}:oK "shown" d [(("parts" : Str),a),("steps",b),("whole",c)]=([("parts",a),("steps",b),("whole",c),("shown",d)]:List (Str × W)):=rfl
theorem J2 {a:W}:oK "parts" a []=([("parts",a)]:List (Str × W)):=rfl
theorem De {g:G} {e q l:List Rw} (g3:Good3 e q l):aQ (de [.d6 g.length,.tup (e.map bP),.tup (q.map bP),.tup (l.map bP)] (g++[.ins "Reader" []])) fun u g'=>u=.non/\g'=g++[.ins "Reader" (BX e q l)]:=by
  have q2:=g3.q2;have l2:=g3.l2;have e2:=g3.e2;unfold de;simp;rw[ax];simp;refine(pA (lo:=1) (hi:=10) (z:=[101,97,99,104]) g3.pe rfl rfl (by have:=g3.e1;omega) (by omega) e2).mono ?_
  rintro u g1 ⟨rfl,rfl⟩;rw[ax];simp;rw[ax];simp;refine(pA (lo:=0) (hi:=5) (z:=[112,105,101,99,101]) g3.pq rfl rfl (by omega) (by omega) (by omega)).mono ?_
  rintro u g1 ⟨rfl,rfl⟩;rw[ax];simp;rw[ax];simp;refine(pA (lo:=0) (hi:=5) (z:=[108,97,115,116]) g3.pl rfl rfl (by omega) (by omega) (by omega)).mono ?_
  rintro u g1 ⟨rfl,rfl⟩;rw[ax];simp;rw[ax,j1,uG];simp[oo,oq,ql,qm];rw[qW];refine jU (c := "Reader") (fs:=[]) (k:=g.length) (by simp) (by simp) (by simp) (by simp) ?_
  rw[ax,j1,uG];simp[oo,oq,ql,qm];refine(o3 (z:=[101,97,99,104]) g3.pe e2).mono ?_;rintro u g5 ⟨rfl,rfl⟩;refine(o3 (z:=[112,105,101,99,101]) g3.pq (by omega)).mono ?_
  rintro u g6 ⟨rfl,rfl⟩;refine(o3 (z:=[108,97,115,116]) g3.pl (by omega)).mono ?_
  rintro u g7 ⟨rfl,rfl⟩;rw[qW];refine jU (c := "Reader") (fs:=[("parts",jQ ml e q l)]) (k:=g.length) (by simp[J2,jQ,ml]) (by simp) (by simp) (by simp) ?_
  rw[ax,j1];simp;refine⟨by omega,?_⟩
  refine jU (c := "Reader") (fs:=[("parts",jQ ml e q l),("steps",jQ fQ e q l)]) (k:=g.length) (by simp[J3,jQ,fQ]) (by simp) (by simp) (by simp) ?_
  have sz:=wD g3;simp[put2];refine⟨by omega,?_⟩
  have hj:=fun g':G=>iH (g:=g') (x:=[10]) (zs:=kS e q l) (by simpa using Nat.le_trans sz (by decide))
  have es:(kS e q l).map W.str=W.str [101,97,99,104]::(List.map bP e++W.str [112,105,101,99,101]::(List.map bP q++W.str [108,97,115,116]::List.map bP l)):=by simp[kS,xG,iF,fA,ij]
  rw[es] at hj;rw[hj];simp;refine jU (c := "Reader") (fs:=[("parts",jQ ml e q l),("steps",jQ fQ e q l),("whole",(W.tup (List.map bP e++(List.map bP q++List.map bP l))))]) (k:=g.length) (by simp) (by simp) (by simp) (by simp) ?_
  simp[put3,BX,Cj]
theorem DB {g:G} {e q l:List Rw} {fr:PA} {we:cA} {Q:W->G->Prop} (g3:Good3 e q l) (h:aQ (fr we g) fun us g'=>us=[.tup (e.map bP),.tup (q.map bP),.tup (l.map bP)]/\Q (mH e q l) g'):aQ (uC "Reader" de fr we g) Q:=by
  refine yX ?_;refine h.mono fun us g1 ⟨e1,hq⟩=>?_
  subst e1;refine(De g3).mono fun u g2 ⟨a,b⟩=>?_
  exact⟨a,_,b,DH e q l,hq⟩

theorem DA {g:G} {e q l:List Rw} (g3:Good3 e q l):aQ (f9 [c9 e q l] g) fun u g'=>u=mH e q l/\g'=g:=by
  unfold f9;simp[c9,bB];refine DB g3 ?_;simp

theorem Ar {c:Cd} {sign line:List Nat} {on:Bool} {g:G}:aQ (k7 [.str c.name,.str sign,.str line,.bl on] g) fun u g'=>u=.bl (c.holds sign line on)/\g'=g:=by
  unfold k7;cases c<;>simp[ax,Cd.name,Cd.holds]
theorem tG {z:List Nat}:cutU z none (some (-1))=z.dropLast:=by
  rcases List.eq_nil_or_concat z with rfl | ⟨z,a,rfl⟩
  . rfl
  . rw[List.concat_eq_append,nk];simp
theorem tJ {z:List Nat}:cutU z (some (-1)) none=z.drop (z.length - 1):=by
  unfold cutU;rw[HT.sIx_none]
  have e:HT.sIx z.length 0 (some (-1))=z.length - 1:=by
    unfold HT.sIx;simp;omega
  rw[e,List.take_of_length_le (by simp)]
theorem CT {z:List Nat} {g:G} (hl:z.length<=16777216):aQ (m8 [.str z] g) fun u g'=>u=.str (fj z)/\g'=g:=by
  unfold m8;simp[hl,tG,tJ];rcases List.eq_nil_or_concat z with rfl | ⟨z,a,rfl⟩
  . simp[fj]
  . rw[List.concat_eq_append]
    simp[fj]
structure EL (rs:List Rw) (sign line:List Nat) (on:Bool) (g:G) (k:Nat) (we:cA) (g':G):Prop where
  out:∃ (s:Ps) (x y:Option W),we=[some (fQ rs),some (.str sign),some (.str s.line),some (.bl s.on),some (.int s.at_),some (.lst (s.told.map W.str)),some (.bl s.added),x,y]/\g'=g/\cB rs sign k s=jJ rs sign line on/\rs.length<=s.at_ + k/\s.line.length + k<=line.length + 12/\s.told.length + k<=12
theorem step_at {each:Bool} {rs:List Rw} {r:Rw} {sign:List Nat} {s:Ps} (ok:r.ok each s.at_ rs.length):s.at_ + 1<=(r.step sign s).at_:=by
  cases r<;>simp only[Rw.step,Rw.ok] at ok ⊢<;>first | omega | (split<;>simp;done) | (split<;>omega)
theorem zE {r:Rw} {sign:List Nat} {s:Ps}:(r.step sign s).line.length<=s.line.length + sign.length:=by
  cases r<;>simp only[Rw.step]<;>first | (simp;done) | (split<;>simp;done) | omega
def w9 (rs:List Rw) (sign line:List Nat) (on:Bool):W:=.tup [.str (jJ rs sign line on).line,.bl (jJ rs sign line on).on,.lst ((jJ rs sign line on).told.map W.str)]
theorem xa {each:Bool} {rs:List Rw} {sign line:List Nat} {on:Bool} {g:G} (pk:dH each rs) (hl:rs.length<=10) (hs:sign.length<=1) (hline:line.length<=16000000) :
    aQ (ji [fQ rs,.str sign,.str line,.bl on] g) fun u g'=>u=w9 rs sign line on/\g'=g:=by
  unfold ji;simp;rw[ax];simp;rw[ax];refine zb 12 (by decide) (EL rs sign line on g) ⟨⟨0,line,on,false,[]⟩,none,none,rfl,rfl,rfl,by simp;omega,by simp,by simp⟩ ?_
  rintro k we g1 ⟨s,x,y,rfl,rfl,ep,hk,kl,kt⟩;simp[fQ];split
  . rename_i hlt
    obtain⟨r,er⟩:∃ r,rs[s.at_]?=some r:=⟨_,List.getElem?_eq_getElem hlt⟩
    have ok:=pk s.at_ r er
    have hx:L2.atI (rs.map Rw.du) (s.at_:Int)=some r.du:=by
      rw[atI_nat (by simpa using hlt)]
      have:=(gEsZ.mp er).2;simp[this]
    obtain⟨k,rfl⟩:∃ k',k=k' + 1:=⟨k - 1,by omega⟩
    rw[wy er] at ep
    have fin:∀ (s':Ps) (a:Int) (zs:List W) (x y:Option W),s'=r.step sign s->a=s'.at_->zs=s'.told.map W.str->∃ m,m < k + 1/\EL rs sign line on g1 m [some (W.tup (rs.map Rw.du)),some (.str sign),some (.str s'.line),some (.bl s'.on),some (.int a),some (.lst zs),some (.bl s'.added),x,y] g1:=by
      intro s' a zs x y es ea ez;subst es ea ez;refine⟨k,Nat.lt_succ_self k,⟨_,x,y,rfl,rfl,ep,?_,?_,?_⟩⟩
      . have:=step_at (sign:=sign) (s:=s) ok;omega
      . have:=zE (r:=r) (sign:=sign) (s:=s);omega
      . have:=qS (r:=r) (sign:=sign) (s:=s);omega
    have l1:s.line.length<=16777216:=by omega
    rw[ax];simp[hx];rw[ax];cases r with
    | tell=>
      simp[Rw.du];rw[ax];simp;rw[ax];simp;rw[ax];simp;refine xN (xs:=s.told.map W.str) ?_ rfl;simp;refine⟨by omega,?_⟩
      rw[ax];simp;have:=fin ⟨s.at_ + 1,[],s.on,s.added,s.told++[s.line]⟩ ((s.at_:Int) + 1) (s.told.map W.str++[.str s.line]) (some (.tup [.str [116,101,108,108]])) (some (.str [116,101,108,108])) rfl (by simp) (by simp)
      exact this
    | tellBare=>
      simp[Rw.du];rw[ax];simp;rw[ax];simp;rw[ax];simp;refine xN (xs:=s.told.map W.str) ?_ rfl;simp;refine(CT l1).mono ?_;rintro u g2 ⟨rfl,rfl⟩;refine⟨by omega,?_⟩
      rw[ax];simp;have:=fin ⟨s.at_ + 1,[],s.on,s.added,s.told++[fj s.line]⟩ ((s.at_:Int) + 1) (s.told.map W.str++[.str (fj s.line)]) (some (.tup [.str [116,101,108,108,32,98,97,114,101]])) (some (.str [116,101,108,108,32,98,97,114,101])) rfl (by simp) (by simp)
      exact this
    | clear=>
      simp[Rw.du];rw[ax];simp;rw[ax];simp;rw[ax];simp;rw[ax];simp;exact fin ⟨s.at_ + 1,[],s.on,s.added,s.told⟩ _ _ _ _ rfl (by simp) rfl
    | on=>
      simp[Rw.du];rw[ax];simp;rw[ax];simp;rw[ax];simp;rw[ax];simp;exact fin ⟨s.at_ + 1,s.line,true,s.added,s.told⟩ _ _ _ _ rfl (by simp) rfl
    | off=>
      simp[Rw.du];rw[ax];simp;rw[ax];simp;rw[ax];simp;rw[ax];simp;exact fin ⟨s.at_ + 1,s.line,false,s.added,s.told⟩ _ _ _ _ rfl (by simp) rfl
    | add=>
      simp[Rw.du];rw[ax];simp;rw[ax]
      by_cases hc:sign≠[59]/\s.added=false
      . have h1':=hc.1
        have h2':=hc.2;simp[h1',h2'];refine⟨by omega,?_⟩
        rw[ax];simp;rw[ax];simp;exact fin ⟨s.at_ + 1,s.line++sign,s.on,true,s.told⟩ _ _ _ _ (by simp only[Rw.step];rw[if_pos hc]) (by simp) rfl
      . have hh:sign≠[59]->s.added=true:=fun a=>by
          cases e:s.added with
          | true=>rfl
          | false=>exact absurd ⟨a,e⟩ hc
        have es:Rw.add.step sign s=⟨s.at_ + 1,s.line,s.on,s.added,s.told⟩:=by simp only[Rw.step];rw[if_neg hc]
        have en:=fin ⟨s.at_ + 1,s.line,s.on,s.added,s.told⟩
        by_cases hs9:sign=[59]
        . simp[hs9]
          rw[ax];simp;rw[ax];simp;rw[hs9] at en es;exact en _ _ _ _ es.symm (by simp) rfl
        . have hh:=hh hs9
          simp[hs9,hh];rw[ax];simp;rw[ax];simp;rw[hh] at en es;exact en _ _ _ _ es.symm (by simp) rfl
    | go n=>
      simp[Rw.du];rw[ax];simp;exact fin ⟨n,s.line,s.on,s.added,s.told⟩ _ _ _ _ rfl (by simp) rfl
    | ifgo c n=>
      have hne:¬ c.name=[103,111]:=by cases c<;>decide
      simp[Rw.du];rw[ax];simp[hne];refine Ar.mono ?_;rintro u h2 ⟨rfl,rfl⟩;have en:=fin ⟨if c.holds sign s.line s.on then n else s.at_ + 1,s.line,s.on,s.added,s.told⟩
      cases hc:c.holds sign s.line s.on with
      | true=>
        simp;exact en _ _ _ _ rfl (by simp[hc]) rfl
      | false=>
        simp;exact en _ _ _ _ rfl (by simp[hc]) rfl
  . rename_i hge
    have hge:rs.length<=s.at_:=by omega
    rw[wx hge] at ep;unfold w9;rw[<- ep]

theorem yz (f:List Rw->W) (e q l:List Rw):gC [(.str iF,f e),(.str fA,f q),(.str ij,f l)] (.inr [101,97,99,104])=some (f e)/\gC [(.str iF,f e),(.str fA,f q),(.str ij,f l)] (.inr [112,105,101,99,101])=some (f q)/\gC [(.str iF,f e),(.str fA,f q),(.str ij,f l)] (.inr [108,97,115,116])=some (f l):=by
  simp[gC,iF,fA,ij]
theorem lZ (a b c:W):c6 [(.str iF,a),(.str fA,b),(.str ij,c)]=true:=rfl
theorem mh {e q l:List Rw} {g:G} {fe:PE} {we:cA} {Q:W->G->Prop} (h:aQ (fe we g) fun u g'=>u=mH e q l/\Q (jQ fQ e q l) g'):aQ (gA [("Reader",.fld)] "steps" fe we g) Q:=by
  rw[yU];refine h.mono fun u g' ⟨a,b⟩=>?_
  subst a;exact b
theorem sJ {f:List Rw->W} {e q l:List Rw} {g:G}:gn (jQ f e q l) (.str [101,97,99,104]) g=some (f e)/\gn (jQ f e q l) (.str [112,105,101,99,101]) g=some (f q)/\gn (jQ f e q l) (.str [108,97,115,116]) g=some (f l):=by
  have:=yz f e q l;refine⟨?_,?_,?_⟩
  . unfold jQ;rw[rO,lZ,if_pos rfl];exact this.1
  . unfold jQ;rw[rO,lZ,if_pos rfl];exact this.2.1
  . unfold jQ;rw[rO,lZ,if_pos rfl];exact this.2.2
theorem wH {e q l:List Rw} {g:G} {we:cA} {i:Nat} {Q:W->G->Prop} (h:we[i]?=some (some (mH e q l))) (hQ:Q (fQ e) g):aQ (aM gn (gA [("Reader",.fld)] "steps" (ah i)) (cE (.str [101,97,99,104])) we g) Q:=by
  rw[gH];refine mh (e:=e) (q:=q) (l:=l) ?_;rw[bR,h,aY,aY,jD,sJ.1];exact⟨rfl,hQ⟩
theorem vd {e q l:List Rw} {g:G} {we:cA} {i:Nat} {Q:W->G->Prop} (h:we[i]?=some (some (mH e q l))) (hQ:Q (fQ q) g):aQ (aM gn (gA [("Reader",.fld)] "steps" (ah i)) (cE (.str [112,105,101,99,101])) we g) Q:=by
  rw[gH];refine mh (e:=e) (q:=q) (l:=l) ?_;rw[bR,h,aY,aY,jD,sJ.2.1];exact⟨rfl,hQ⟩
theorem wI {e q l:List Rw} {g:G} {we:cA} {i:Nat} {Q:W->G->Prop} (h:we[i]?=some (some (mH e q l))) (hQ:Q (fQ l) g):aQ (aM gn (gA [("Reader",.fld)] "steps" (ah i)) (cE (.str [108,97,115,116])) we g) Q:=by
  rw[gH];refine mh (e:=e) (q:=q) (l:=l) ?_;rw[bR,h,aY,aY,jD,sJ.2.2];exact⟨rfl,hQ⟩
def eH (zs:List (List Nat)):W:=.tup (zs.map W.str)
def mB (zs:List (List Nat)):W:=.lst (zs.map W.str)
structure Kz (rdr ps:W) (st:Ls) (we:cA) (g0 g:G):Prop where
  out:∃ x2 x6 x7:Option W,we=[some rdr,some ps,x2,some (.str st.1),some (.bl st.2.1),some (mB st.2.2),x6,x7]/\g=g0
theorem zF (xs ys:List (List Nat)):W.lst (xs.map W.str++ys.map W.str)=mB (xs++ys):=by unfold mB;rw[List.map_append]
theorem xB {st:Ls}:st.1.length<=Ls.size st:=by unfold Ls.size;omega
theorem Aa (ps:List (List Nat)) {k:Nat} (hk:k < ps.length):cost (ps.take k) + (ps[k].length + 1)<=cost ps:=by
  induction ps generalizing k with
  | nil=>simp at hk
  | cons p ps ih=>
    cases k with
    | zero=>simp[cost]
    | succ k=>
      have:=ih (k:=k) (by simpa using hk)
      simp only[cost,List.take_succ_cons,List.map_cons,List.sum_cons,List.getElem_cons_succ] at this ⊢;omega
theorem tF (ps:List (List Nat)):ps.length<=cost ps:=by
  induction ps with
  | nil=>simp
  | cons p ps ih=>
    simp only[cost,List.map_cons,List.sum_cons,List.length_cons] at ih ⊢;omega
theorem nF {α β:Type} {f:β->α->β} {b:β} {l:List α} {k:Nat} (hk:k < l.length):(l.take (k + 1)).foldl f b=f ((l.take k).foldl f b) l[k]:=by
  rw[List.take_add_one,List.getElem?_eq_getElem hk,List.foldl_append];rfl
theorem qb {each:Bool} {rs:List Rw} {sign:List Nat} {st:Ls} {g:G} {rdr psW:W} {x2 x6 x7:Option W} {fe fs:PE} {D:Es} (pk:dH each rs) (hl:rs.length<=10) (hs:sign.length<=1) (hz:Ls.size st<=10000000) (ht:st.2.2.length<=16000000)
    (h1:∀ Q:W->G->Prop,Q (fQ rs) g->aQ (fe [some rdr,some psW,x2,some (.str st.1),some (.bl st.2.1),some (mB st.2.2),x6,x7] g) Q) (h2:∀ Q:W->G->Prop,Q (.str sign) g->aQ (fs [some rdr,some psW,x2,some (.str st.1),some (.bl st.2.1),some (mB st.2.2),x6,x7] g) Q)
    (hD:∀ x7,D.nx [some rdr,some psW,x2,some (.str (feed rs sign st).1),some (.bl (feed rs sign st).2.1),some (mB (feed rs sign st).2.2),x6,x7] g) :
    hU (aA (dh (aC ji (aa fe (aa fs (aa (ah 3) (aa (ah 4) ai))))) (eY 3 (a9 (aG 3) (a9 (aG 4) (a9 (aG 7) cC))))) (vR 5 (ah 7)) [some rdr,some psW,x2,some (.str st.1),some (.bl st.2.1),some (mB st.2.2),x6,x7] g) D:=by
  rw[ax,j1,gN,bA];refine h1 _ ?_;rw[bA];refine h2 _ ?_;simp;refine(xa pk hl hs (by have:=xB (st:=st);omega)).mono ?_
  rintro u g' ⟨rfl,rfl⟩;have pt:=mf (rs:=rs) (sign:=sign) (line:=st.1) (on:=st.2.1);simp[w9];refine DU (xs:=st.2.2.map W.str) ?_ rfl;simp;refine⟨by omega,?_⟩
  rw[zF];exact hD _
theorem wa {e q l:List Rw} {ps:List (List Nat)} {g:G} (g3:Good3 e q l) (hc:cost ps<=1000000):aQ (gW [mH e q l,eH ps] g) fun u g'=>u=eH (bW e q l ps)/\g'=g:=by
  have q2:=g3.q2;have l2:=g3.l2;have hlen:=tF ps;unfold gW;simp;rw[ax];simp;rw[ax];refine oy ?_;simp[eH];refine⟨by omega,fun k we g'=>Kz (mH e q l) (.tup (ps.map W.str)) ((ps.take k).foldl (cw e q) ([],false,[])) we g g',⟨_,_,_,rfl,rfl⟩,?_,?_⟩
  . rintro k hk we g' ⟨x2,x6,x7,rfl,rfl⟩
    have hcg:=Aa ps hk;have z0:=ip (e:=e) (q:=q) (ps.take k) ([],false,[]);have t0:=iq (e:=e) (q:=q) (ps.take k) ([],false,[])
    generalize hst:(ps.take k).foldl (cw e q) ([],false,[])=st at z0 t0
    simp[Ls.size] at z0 t0;simp;rw[ax];refine oy ?_;simp;refine⟨by omega,fun j we g''=>Kz (mH e q l) (.tup (ps.map W.str)) ((ps[k].take j).foldl (fun st c=>feed e [c] st) st) we g' g'',⟨_,_,_,rfl,rfl⟩,?_,?_⟩
    . rintro j hj we g'' ⟨x2,x6,x7,rfl,rfl⟩
      have z1:=iU (e:=e) (ps[k].take j) st;have t1:=iV (e:=e) (ps[k].take j) st
      generalize hst2:((ps[k].take j).foldl (fun st c=>feed e [c] st) st)=st2 at z1 t1
      simp at z1 t1;simp;refine qb (rs:=e) (sign:=[ps[k][j]]) g3.pe g3.e2 (by simp) (by unfold Ls.size at z1 ⊢;omega) (by omega) (fun Q h=>wH rfl h) (fun Q h=>by simpa using h) ?_
      intro x7;dsimp only;rw[nF hj,hst2];exact⟨_,_,_,rfl,rfl⟩
    . rintro we g'' ⟨x2,x6,x7,rfl,rfl⟩
      have z1:=iU (e:=e) ps[k] st;have t1:=iV (e:=e) ps[k] st;rw[List.take_length];have ef:cw e q st ps[k]=feed q [] (ps[k].foldl (fun st c=>feed e [c] st) st):=rfl
      generalize (ps[k].foldl (fun st c=>feed e [c] st) st)=st2 at z1 t1 ef
      refine qb (rs:=q) (sign:=[]) g3.pq (by omega) (by simp) (by unfold Ls.size at z1 ⊢;omega) (by omega) (fun Q h=>vd rfl h) (fun Q h=>by simpa using h) ?_
      intro x7;dsimp only;rw[nF hk,hst,ef];exact⟨_,_,_,rfl,rfl⟩
  . rintro we g' ⟨x2,x6,x7,rfl,rfl⟩
    rw[List.take_length];have z0:=ip (e:=e) (q:=q) ps ([],false,[]);have t0:=iq (e:=e) (q:=q) ps ([],false,[]);unfold bW
    generalize ps.foldl (cw e q) ([],false,[])=st at z0 t0
    simp[Ls.size] at z0 t0;rw[ax,j1,gN,bA];refine wI rfl ?_;simp;refine(xa g3.pl (by omega) (by simp) (by have:=xB (st:=st);unfold Ls.size at this;omega)).mono ?_
    rintro u g'' ⟨rfl,rfl⟩;have pt:=mf (rs:=l) (sign:=[]) (line:=st.1) (on:=st.2.1);simp[w9,mB];refine⟨by omega,?_⟩
    unfold feed;simp

structure LDoneI (rs:List Rw) (sign line:List Nat) (on:Bool) (g:G) (k:Nat) (we:cA) (g':G):Prop where
  out:∃ (s:Ps) (x4 x8 x9 x10:Option W),we=[some (bB rs),some (.str sign),some (.str s.line),some (.bl s.on),x4,some (.int s.at_),some (.lst (s.told.map W.str)),some (.bl s.added),x8,x9,x10]/\g'=g/\cB rs sign (12 - k) s=jJ rs sign line on/\rs.length<=s.at_ + (12 - k)/\s.line.length<=line.length + k/\s.told.length<=k
def gE (c:Nat):Bool:=(decide (97<=c) && decide (c<=122)) || (c == 59 || c == 44)
theorem AA {c:Nat} (h:gE c=true):c < 128:=by
  unfold gE at h;simp only[Bool.or_eq_true,Bool.and_eq_true,decide_eq_true_eq,beq_iff_eq] at h;omega
def kA (z:List Nat):Bool:=z.all gE
theorem tm {α β:Type} {R:α->β->Prop} {xs:List α} {ys:List β} (h:ko R xs ys) {y:β} (hy:y∈ys):∃ x,x∈xs/\R x y:=by
  induction h with
  | nil=>cases hy
  | cons r _ ih=>
    rcases List.mem_cons.mp hy with rfl | hy
    . exact⟨_,List.mem_cons_self,r⟩
    . obtain⟨x,hx,rx⟩:=ih hy
      exact⟨x,List.mem_cons_of_mem _ hx,rx⟩
theorem yj {ys:List W} {P:List Nat->Prop} (h:∀ y∈ys,∃ z,y=.str z/\P z):∃ zs:List (List Nat),ys=zs.map W.str/\∀ z∈zs,P z:=by
  induction ys with
  | nil=>exact⟨[],rfl,fun z hz=>by cases hz⟩
  | cons y ys ih=>
    obtain⟨z,rfl,hz⟩:=h y List.mem_cons_self;obtain⟨zs,rfl,hs⟩:=ih fun y hy=>h y (List.mem_cons_of_mem _ hy)
    exact⟨z::zs,rfl,fun w hw=>(List.mem_cons.mp hw).elim (fun e=>by subst e;exact hz) (hs w)⟩
theorem jX:∀ zs:List (List Nat),joinL [] zs=zs.flatten
  | []=>rfl
  | [z]=>by simp[joinL]
  | z::w::zs=>by
    rw[joinL,jX (w::zs)];simp
theorem nE (zs:List (List Nat)):zs.flatten.length=(zs.map List.length).sum:=by rw[List.length_flatten]
theorem Cm {r g:G} {most:Nat} (s:Sg r g) (h2:most<=1000):aQ (e9 [.d6 0,.int most] g) fun u g'=>(∃ z,u=.str z/\kA z=true/\z.length<=most)/\Sg r g':=by
  unfold e9;simp;rw[ax];simp;refine(hI s (by simp) (by simp)).mono ?_
  rintro u g1 ⟨hu,s1⟩
  obtain⟨m,rfl,hm,h1,hl⟩:∃ m,u=.str m/\kA m=true/\1<=m.length/\m.length<=100:=by
    simp at hu;rcases hu with rfl | rfl | rfl | rfl | rfl | rfl<;>exact⟨_,rfl,by decide,by decide,by decide⟩
  refine l5 (Sg r) (fun x y=>∃ c,y=.str [c]/\gE c=true) (jG ?_)
  simp;refine(ft s1 (by omega) (by omega)).mono ?_
  rintro u g2 ⟨k,rfl,hk,s2⟩;refine⟨k,rfl,by omega,by simp[cI];omega,s2,?_,?_⟩
  . intro x hx g3 s3
    refine(GF s3 h1 (by omega)).mono ?_
    rintro u g4 ⟨⟨c,hc,rfl⟩,s4⟩;exact⟨⟨c,rfl,List.all_eq_true.mp hm c hc⟩,s4⟩
  . intro ys g3 ha s3
    have hl2:=ha.len
    obtain⟨zs,rfl,hz⟩:=yj (ys:=ys) (P:=fun z=>∃ c,z=[c]/\gE c=true) fun y hy=>by
      obtain⟨x,_,c,rfl,hc⟩:=tm ha hy;exact⟨[c],rfl,c,rfl,hc⟩
    have hs:(zs.map List.length).sum=zs.length:=by
      clear ha hl2
      induction zs with
      | nil=>rfl
      | cons z zs ih=>
        obtain⟨c,rfl,_⟩:=hz z List.mem_cons_self;simp[ih fun z hz'=>hz z (List.mem_cons_of_mem _ hz')]
        omega
    simp[cI] at hl2;rw[iH (by simp;omega)]
    refine⟨⟨_,rfl,?_,?_⟩,s3⟩
    . rw[jX]
      refine List.all_eq_true.mpr fun c hc=>?_
      obtain⟨z,hz1,hz2⟩:=List.mem_flatten.mp hc;obtain⟨d,rfl,hd⟩:=hz z hz1;rw[List.mem_singleton] at hz2;subst hz2;exact hd
    . rw[jX,nE]
      omega
structure JC (n m:Nat) (ps:List (List Nat)):Prop where
  sg:∀ z∈ps,kA z=true
  le:∀ z∈ps,z.length<=m
  ln:ps.length<=n
theorem JC.cost {n m:Nat} {ps:List (List Nat)} (h:JC n m ps):cost ps<=n * (m + 1):=by
  have:∀ ps:List (List Nat),(∀ z∈ps,z.length<=m)->LP.cost ps<=ps.length * (m + 1):=by
    intro ps
    induction ps with
    | nil=>intro _;simp[LP.cost]
    | cons p ps ih=>
      intro hp;have h1:=ih fun z hz=>hp z (List.mem_cons_of_mem _ hz)
      have h2:=hp p List.mem_cons_self;simp only[LP.cost,List.map_cons,List.sum_cons,List.length_cons,Nat.add_mul] at h1 ⊢;omega
  refine Nat.le_trans (this ps h.le) (Nat.mul_le_mul_right _ h.ln)
theorem ze {r g:G} (s:Sg r g):aQ (ee [.d6 0] g) fun u g'=>(∃ ps,u=eH ps/\JC 5 9 ps)/\Sg r g':=by
  unfold ee;simp;refine l5 (Sg r) (fun x y=>∃ z,y=.str z/\(kA z=true/\z.length<=9)) (jG ?_)
  simp;refine(ft s (by omega) (by omega)).mono ?_
  rintro u g2 ⟨k,rfl,hk,s2⟩;refine⟨k,rfl,by omega,by simp[cI];omega,s2,?_,?_⟩
  . intro x hx g3 s3
    refine(hI s3 (by simp) (by simp)).mono ?_
    rintro u g4 ⟨hu,s4⟩
    obtain⟨n,rfl,hn⟩:∃ n:Nat,u=.int n/\n<=9:=by
      simp at hu;rcases hu with rfl | rfl | rfl
      . exact⟨1,rfl,by decide⟩
      . exact⟨3,rfl,by decide⟩
      . exact⟨9,rfl,by decide⟩
    refine(Cm s4 (by omega)).mono ?_
    rintro u g5 ⟨⟨z,rfl,hz,hl⟩,s5⟩;exact⟨⟨z,rfl,hz,by omega⟩,s5⟩
  . intro ys g3 ha s3
    have hl2:=ha.len
    obtain⟨zs,rfl,hz⟩:=yj (ys:=ys) (P:=fun z=>kA z=true/\z.length<=9) fun y hy=>by
      obtain⟨x,_,z,e,hz⟩:=tm ha hy;exact⟨z,e,hz⟩
    simp[cI] at hl2;exact⟨⟨zs,rfl,fun z h=>(hz z h).1,fun z h=>(hz z h).2,by omega⟩,s3⟩

theorem vN {x:Str} {c k:Nat}:StrLaws.At x ⟨#[c]⟩ x.length k ↔ x.cps.toList[k]?=some c:=StrLaws.subAt_one x c k
theorem nj {c:Nat}:∀ {l:List Nat} {n:Nat},(∀ k,k < n->l[k]?≠some c)->(l.take n).count c=0
  | l,n,h=>List.count_eq_zero.mpr fun hm=>by
    obtain⟨j,hj⟩:=List.getElem?_of_mem hm;have hl:j < (l.take n).length:=(gEsZ.mp hj).1;have hn:j < n:=by simp at hl;omega
    rw[List.getElem?_take_of_lt hn] at hj;exact h j hn hj
theorem chain_count {x:Str} {c:Nat}:∀ {cuts:List Nat} {a f:Nat},StrLaws.ChainG x ⟨#[c]⟩ x.length a cuts f->(∀ k,f<=k->¬ StrLaws.At x ⟨#[c]⟩ x.length k)->cuts.length=(x.cps.toList.drop a).count c
  | [],a,f,h,hn=>by
    have e:f=a:=h;subst e
    have:=nj (c:=c) (l:=x.cps.toList.drop f) (n:=(x.cps.toList.drop f).length) fun k _ q=>by
      rw[List.getElem?_drop] at q;exact hn (f + k) (by omega) (vN.mpr q)
    rw[List.take_length] at this;rw[this];rfl
  | k::r,a,f,⟨h1,h2,h3,h4⟩,hn=>by
    have ih:=chain_count h4 hn;have hk:x.cps.toList[k]?=some c:=vN.mp h2;have kl:k < x.cps.toList.length:=(gEsZ.mp hk).1
    have e1:x.cps.toList.drop a=(x.cps.toList.drop a).take (k - a)++x.cps.toList.drop k:=by
      have:=List.take_append_drop (k - a) (x.cps.toList.drop a);rw[List.drop_drop,show a + (k - a)=k by omega] at this
      exact this.symm
    have e2:x.cps.toList.drop k=c::x.cps.toList.drop (k + 1):=by
      rw[List.drop_eq_getElem_cons kl]
      congr 1
      exact(gEsZ.mp hk).2
    have z:((x.cps.toList.drop a).take (k - a)).count c=0:=nj fun j hj q=>by
      rw[List.getElem?_drop] at q;exact h3 (a + j) (by omega) (by omega) (vN.mpr q)
    rw[e1,List.count_append,z,e2,List.count_cons_self,List.length_cons,ih];show(x.cps.toList.drop (k + 1)).count c + 1=_;omega
theorem zJ {z:List Nat} {c:Nat}:Txt.count (S z) (S [c])=(z.count c:Nat):=by
  obtain⟨f,hG,hn⟩:=StrLaws.occ_tight (S z) ⟨#[c]⟩ (Nat.le_refl 1);have h:=chain_count hG hn;rw[List.drop_zero] at h;unfold Txt.count
  congr 1
def isLt (c:Nat):Bool:=decide (97<=c) && decide (c<=122)
def mE:List Nat:=[97,98,99,100,101,102,103,104,105,106,107,108,109,110,111,112,113,114,115,116,117,118,119,120,121,122]
theorem ur {c:Nat}:c∈mE ↔ isLt c=true:=by
  constructor
  . intro h
    have:∀ c∈mE,isLt c=true:=by decide
    exact this c h
  . intro h
    unfold isLt at h;simp only[Bool.and_eq_true,decide_eq_true_eq] at h;have key:∀ c:Nat,c < 123->97<=c->c∈mE:=by decide
    exact key c (by omega) h.1
theorem zq {z:List Nat} {c:Nat} {g:G}:eJ (.str z) [.str [c]] g=some (.int (z.count c:Nat)):=by
  unfold eJ;dsimp only;rw[zJ]
theorem fm (ps:List (List Nat)):(ps.map List.length).sum + ps.length=cost ps:=by
  induction ps with
  | nil=>rfl
  | cons w r ih=>
    unfold cost at ih ⊢;simp only[List.map_cons,List.sum_cons,List.length_cons];omega
structure LR (R T:List Nat->List Nat->Prop) (s s':List Nat):Prop where
  nil:R [] []
  emp:∀ {L L':List Nat},R L L'->(L=[] ↔ L'=[])
  add:∀ {L L':List Nat},s≠[59]->R L L'->R (L++s) (L'++s')
  tel:∀ {L L':List Nat},R L L'->T L L'
  bar:∀ {L L':List Nat},R L L'->T (fj L) (fj L')
  kE:s=[59] ↔ s'=[59]
  kM:s=[44] ↔ s'=[44]
structure HQ (R T:List Nat->List Nat->Prop) (a b:Ps):Prop where
  at_:a.at_=b.at_
  on:a.on=b.on
  ad:a.added=b.added
  ln:R a.line b.line
  td:ko T a.told b.told
theorem pX {α β:Type} {R:α->β->Prop} {xs:List α} {ys:List β} {x:α} {y:β} (h:ko R xs ys) (r:R x y):ko R (xs++[x]) (ys++[y]):=by
  induction h with
  | nil=>exact .cons r .nil
  | cons a _ ih=>exact .cons a ih
section
variable {R T:List Nat->List Nat->Prop} {s s':List Nat}
theorem Cw (h:LR R T s s') {r:Rw} {a b:Ps} (p:HQ R T a b):HQ R T (r.step s a) (r.step s' b):=by
  obtain⟨p1,p2,p3,p4,p5⟩:=p;cases r with
  | tell=>exact⟨by simp only[Rw.step,p1],p2,p3,h.nil,pX p5 (h.tel p4)⟩
  | tellBare=>exact⟨by simp only[Rw.step,p1],p2,p3,h.nil,pX p5 (h.bar p4)⟩
  | clear=>exact⟨by simp only[Rw.step,p1],p2,p3,h.nil,p5⟩
  | on=>exact⟨by simp only[Rw.step,p1],rfl,p3,p4,p5⟩
  | off=>exact⟨by simp only[Rw.step,p1],rfl,p3,p4,p5⟩
  | add=>
    simp only[Rw.step]
    by_cases c:s≠[59]/\a.added=false
    . have c':s'≠[59]/\b.added=false:=⟨fun z=>c.1 (h.kE.mpr z),by rw[<- p3];exact c.2⟩
      rw[if_pos c,if_pos c'];exact⟨by simp only[p1],p2,rfl,h.add c.1 p4,p5⟩
    . have c':¬ (s'≠[59]/\b.added=false):=fun z=>c ⟨fun y=>z.1 (h.kE.mp y),by rw[p3];exact z.2⟩
      rw[if_neg c,if_neg c'];exact⟨by simp only[p1],p2,p3,p4,p5⟩
  | go n=>exact⟨rfl,p2,p3,p4,p5⟩
  | ifgo c n=>
    have e:c.holds s a.line a.on=c.holds s' b.line b.on:=by
      cases c with
      | empty=>simp only[Cd.holds,h.emp p4]
      | on=>exact p2
      | end_=>simp only[Cd.holds,h.kE]
      | mark=>simp only[Cd.holds,h.kM]
    exact⟨by simp only[Rw.step,e,p1],p2,p3,p4,p5⟩
theorem qB (h:LR R T s s') {rs:List Rw}:∀ (k:Nat) {a b:Ps},HQ R T a b->HQ R T (cB rs s k a) (cB rs s' k b)
  | 0,a,b,p=>p
  | k + 1,a,b,p=>by
    rw[cB,cB,p.at_];split
    . exact qB h k (Cw h p)
    . exact p
theorem BP (h:LR R T s s') {rs:List Rw} {L L':List Nat} {on:Bool} (r:R L L'):HQ R T (jJ rs s L on) (jJ rs s' L' on):=qB h 12 ⟨rfl,rfl,rfl,r,.nil⟩
end
structure Sub (f:Nat->Nat):Prop where
  e:∀ c,f c=59 ↔ c=59
  m:∀ c,f c=44 ↔ c=44
theorem yw {f:Nat->Nat} (h:Sub f) (L:List Nat):fj (L.map f)=(fj L).map f:=by
  unfold fj
  have e:(L.map f).getLast?=some 44 ↔ L.getLast?=some 44:=by
    rw[List.getLast?_map];cases L.getLast? with
    | none=>simp
    | some c=>simp[h.m]
  by_cases z:L.getLast?=some 44
  . rw[if_pos z,if_pos (e.mpr z),List.map_dropLast]
  . rw[if_neg z,if_neg fun y=>z (e.mp y)]
theorem Gq {f:Nat->Nat} (h:Sub f) (s:List Nat):LR (fun L L'=>L'=L.map f) (fun L L'=>L'=L.map f) s (s.map f) where
  nil:=rfl
  emp:=fun {L L'} e=>by rw[e];simp
  add:=fun {L L'} _ e=>by rw[e,List.map_append]
  tel:=fun e=>e
  bar:=fun {L L'} e=>by rw[e,yw h]
  kE:=by
    constructor
    . intro z;rw[z];simp[h.e]
    . intro z
      cases s with
      | nil=>cases z
      | cons c r=>
        cases r with
        | nil=>simpa[h.e] using z
        | cons _ _=>simp at z
  kM:=by
    constructor
    . intro z;rw[z];simp[h.m]
    . intro z
      cases s with
      | nil=>cases z
      | cons c r=>
        cases r with
        | nil=>simpa[h.m] using z
        | cons _ _=>simp at z
theorem zY {f:Nat->Nat} {xs ys:List (List Nat)} (h:ko (fun L L'=>L'=L.map f) xs ys):ys=xs.map (List.map f):=by
  induction h with
  | nil=>rfl
  | cons a _ ih=>rw[a,ih];rfl
def Ls.map (f:Nat->Nat) (st:Ls):Ls:=(st.1.map f,st.2.1,st.2.2.map (List.map f))
theorem nD {f:Nat->Nat} (h:Sub f) {rs:List Rw} {s:List Nat} {st:Ls}:feed rs (s.map f) (st.map f)=(feed rs s st).map f:=by
  have p:=BP (rs:=rs) (on:=st.2.1) (Gq h s) (L:=st.1) (L':=st.1.map f) rfl;unfold feed Ls.map;dsimp only;rw[p.ln,<- p.on,zY p.td,List.map_append]
theorem qe {f:Nat->Nat} (h:Sub f) {e:List Rw}:∀ (piece:List Nat) (st:Ls),(piece.map f).foldl (fun st c=>feed e [c] st) (st.map f)=(piece.foldl (fun st c=>feed e [c] st) st).map f
  | [],st=>rfl
  | c::piece,st=>by
    rw[List.map_cons,List.foldl_cons,List.foldl_cons,<- qe h piece]
    congr 1
    exact nD h (s:=[c])
theorem yD {f:Nat->Nat} (h:Sub f) {e q:List Rw} (piece:List Nat) (st:Ls):cw e q (st.map f) (piece.map f)=(cw e q st piece).map f:=by
  unfold cw;rw[qe h];exact nD h (s:=[])
theorem nz {f:Nat->Nat} (h:Sub f) {e q:List Rw}:∀ (ps:List (List Nat)) (st:Ls),(ps.map (List.map f)).foldl (cw e q) (st.map f)=(ps.foldl (cw e q) st).map f
  | [],st=>rfl
  | p::ps,st=>by
    rw[List.map_cons,List.foldl_cons,List.foldl_cons,yD h,nz h ps]
theorem v9 {f:Nat->Nat} (h:Sub f) {e q l:List Rw} {ps:List (List Nat)}:bW e q l (ps.map (List.map f))=(bW e q l ps).map (List.map f):=by
  unfold bW;have:=nz h (e:=e) (q:=q) ps ([],false,[]);have e0:Ls.map f ([],false,[])=([],false,[]):=rfl;rw[e0] at this;rw[this];have:=nD h (rs:=l) (s:=[]) (st:=ps.foldl (cw e q) ([],false,[]));rw[List.map_nil] at this;rw[this];rfl
def Ps.cnt (c:Nat) (s:Ps):Nat:=s.line.count c + (s.told.map (List.count c)).sum
theorem yu (c:Nat) (l:List Nat):(fj l).count c<=l.count c:=by
  unfold fj;split
  . exact List.Sublist.count_le c (List.dropLast_sublist l)
  . exact Nat.le_refl _
theorem Cv {c:Nat} {r:Rw} {sign:List Nat} {s:Ps}:(r.step sign s).cnt c + (if (r.step sign s).added then 0 else sign.count c)<=s.cnt c + (if s.added then 0 else sign.count c):=by
  obtain⟨at_,line,on,added,told⟩:=s;have hb:=yu c line;cases r
  case add=>
    simp only[Rw.step,Ps.cnt];split
    . rename_i hc
      obtain⟨_,rfl⟩:=hc;simp;omega
    . exact Nat.le_refl _
  all_goals cases added<;>simp[Rw.step,Ps.cnt]<;>omega
theorem qA {c:Nat} {rs:List Rw} {sign:List Nat}:∀ (k:Nat) (s:Ps),(cB rs sign k s).cnt c<=s.cnt c + (if s.added then 0 else sign.count c)
  | 0,s=>by rw[cB];omega
  | k + 1,s=>by
    rw[cB];split
    . have:=qA (c:=c) (rs:=rs) (sign:=sign) k (by rename_i r _;exact r.step sign s)
      exact Nat.le_trans this Cv
    . omega
def Ls.cnt (c:Nat) (st:Ls):Nat:=st.1.count c + (st.2.2.map (List.count c)).sum
theorem nB {c:Nat} {rs:List Rw} {sign:List Nat} {st:Ls}:Ls.cnt c (feed rs sign st)<=Ls.cnt c st + sign.count c:=by
  have:=qA (c:=c) (rs:=rs) (sign:=sign) 12 ⟨0,st.1,st.2.1,false,[]⟩;unfold Ps.cnt at this;unfold Ls.cnt feed jJ;simp only[List.map_append,List.sum_append] at this ⊢;simp at this;omega
theorem qd {c:Nat} {e:List Rw}:∀ (piece:List Nat) (st:Ls),Ls.cnt c (piece.foldl (fun st d=>feed e [d] st) st)<=Ls.cnt c st + piece.count c
  | [],st=>Nat.le_refl _
  | d::piece,st=>by
    have h1:=qd (c:=c) (e:=e) piece (feed e [d] st);have h2:=nB (c:=c) (rs:=e) (sign:=[d]) (st:=st);rw[List.foldl_cons];have h3:(d::piece).count c=[d].count c + piece.count c:=by rw[<- List.count_append];rfl
    omega
theorem oG {c:Nat} {e q:List Rw}:∀ (ps:List (List Nat)) (st:Ls),Ls.cnt c (ps.foldl (cw e q) st)<=Ls.cnt c st + ps.flatten.count c
  | [],st=>Nat.le_refl _
  | p::ps,st=>by
    have h1:=oG (c:=c) (e:=e) (q:=q) ps (cw e q st p);have h2:=nB (c:=c) (rs:=q) (sign:=[]) (st:=p.foldl (fun st d=>feed e [d] st) st)
    have h3:=qd (c:=c) (e:=e) p st;rw[List.foldl_cons,List.flatten_cons,List.count_append]
    have h4:Ls.cnt c (cw e q st p)<=Ls.cnt c st + p.count c:=by
      unfold cw;simp only[List.count_nil] at h2;omega
    omega
theorem zI (c:Nat) (zs:List (List Nat)):(zs.map (List.count c)).sum=zs.flatten.count c:=by
  induction zs with
  | nil=>rfl
  | cons z zs ih=>rw[List.map_cons,List.sum_cons,List.flatten_cons,List.count_append,ih]
theorem v8 {c:Nat} {e q l:List Rw} {ps:List (List Nat)}:(bW e q l ps).flatten.count c<=ps.flatten.count c:=by
  have h1:=oG (c:=c) (e:=e) (q:=q) ps ([],false,[]);have h2:=nB (c:=c) (rs:=l) (sign:=[]) (st:=ps.foldl (cw e q) ([],false,[]));rw[<- zI];unfold bW;unfold Ls.cnt at h1 h2;simp only[List.count_nil,List.map_nil,List.sum_nil] at h1 h2;omega

theorem yy {e q l:List Rw} {g:G}:aQ (dF [mH e q l] g) fun u g'=>g'=g:=by
  unfold dF;simp[mH,ei,pF]

theorem j4 {t:PT} {f:PS} {b:Bool} {we:cA} {g:G} {D:Es} (ht:aQ (t we g) fun k g'=>k=b/\g'=g) (h1:b=true->hU (f we g) D) (h2:b=false->D.nx we g):hU (cJ t f aH we g) D:=by
  rw[GO];refine ht.mono ?_;rintro k g' ⟨rfl,rfl⟩;cases k with
  | true=>rw[if_pos rfl];exact h1 rfl
  | false=>rw[if_neg Bool.false_ne_true,BK];exact h2 rfl

theorem xl {c:Nat} {g:G}:iW false (.str [c]) (.str [97,98,99,100,101,102,103,104,105,106,107,108,109,110,111,112,113,114,115,116,117,118,119,120,121,122]) g=some (.bl (isLt c)):=by
  rw[xi];show some (W.bl (decide (c∈mE)))=_
  congr 2
  cases h:isLt c
  . exact decide_eq_false fun q=>by rw[ur.mp q] at h;cases h
  . exact decide_eq_true (ur.mpr h)
theorem Ay {c:Nat} {g:G}:iW false (.str [c]) (.tup [.str [59],.str [44]]) g=some (.bl (c == 59 || c == 44)):=by
  rw[mM]
  have e:∀ k:Nat,(([k]:List Nat) == [c])=(c == k):=fun k=>by
    rw[Bool.eq_iff_iff];simp;exact eq_comm
  simp only[c7,lV,List.any_cons,List.any_nil,List.all_cons,List.all_nil,Bool.and_self,e,Bool.or_false];rfl
theorem yd (c:Nat):(isLt c || (c == 59 || c == 44))=gE c:=rfl
theorem IX {z:List Nat} {g:G} (hz:z.length<=1000000) (h:kA z=true):aQ (gT [.str z] g) fun u g'=>u=.bl true/\g'=g:=by
  unfold gT;have hi:ei ["Reader"] [.str z,.ty "str"] g=some (.bl true):=ug (t := "str") rfl;simp[hi];refine gO (fun x=>match x with | .str [c]=>.bl (gE c) | _=>.non) ?_
  simp[-xi,-mM];refine⟨by omega,?_,?_⟩
  . intro c hc
    rw[xl,Ay];have:=yd c;cases h:isLt c with
    | true=>rw[h] at this;simp;simpa using this
    | false=>rw[h] at this;simp;simpa using this
  . have:((z.map fun c=>W.str [c]).map fun x=>match x with | .str [c]=>W.bl (gE c) | _=>.non)=(z.map gE).map W.bl:=by
      rw[List.map_map,List.map_map];rfl
    rw[List.map_map] at this;rw[this,z3];unfold kA at h;simp at h ⊢;exact h
theorem yx {ps:List (List Nat)} {g:G} (hs:∀ z∈ps,kA z=true) (hc:cost ps<=1000000):aQ (dE [eH ps] g) fun _ g'=>g'=g:=by
  have cl:=tF ps;have cs:=fm ps
  have le:∀ z∈ps,z.length<=1000000:=fun z hz=>by
    have:z.length<=(ps.map List.length).sum:=by
      clear hs hc cl cs
      induction ps with
      | nil=>cases hz
      | cons a ps ih=>
        rcases List.mem_cons.mp hz with rfl | hz
        . simp
        . have:=ih hz;simp;omega
    omega
  unfold dE;simp;rw[ax];refine j4 (b:=false) ?_ (fun h=>by cases h) (fun _=>?_)
  . have hi:ei ["Reader"] [eH ps,.ty "tuple"] g=some (.bl true):=rfl
    simp[hi]
  dsimp only;refine lE ?_;simp[eH];refine⟨by rw[lg,List.length_map];omega,fun xs we g'=>∃ k x1 x2,k<=ps.length/\xs=(gD (ps.map W.str)).drop k/\we=[some (.tup (ps.map W.str)),x1,x2]/\g'=g,⟨0,none,none,Nat.zero_le _,rfl,rfl,rfl⟩,?_,?_⟩
  . rintro x xs we g' ⟨k,x1,x2,hk,hx,rfl,rfl⟩
    obtain⟨hk',rfl,rfl⟩:=rF hx;have hk2:k < ps.length:=by simpa using hk'
    have hm:=List.getElem_mem hk2;simp;refine(IX (le _ hm) (hs _ hm)).mono ?_;rintro u g2 ⟨rfl,rfl⟩;simp;exact⟨k + 1,by omega,rfl⟩
  . rintro we g' ⟨k,x1,x2,hk,hx,rfl,rfl⟩
    rfl
theorem l0 {e q l:List Rw} {ps:List (List Nat)} {g:G} (g3:Good3 e q l) (hs:∀ z∈ps,kA z=true) (hc:cost ps<=1000000):aQ (iR [mH e q l,eH ps] g) fun u g'=>u=eH (bW e q l ps)/\g'=g:=by
  unfold iR;simp;rw[ax];simp;refine yy.mono ?_;rintro _ g1 rfl;rw[ax];simp;refine(yx hs hc).mono ?_;rintro _ g1 rfl;exact wa g3 hc

theorem zm {ps:List (List Nat)} (hs:∀ z∈ps,kA z=true) (hc:cost ps<=1000000):∃ x,qH (eH ps)=some x:=by
  have hl:∀ z∈ps,∀ c∈z,c < 128:=fun z hz c hc=>AA (List.all_eq_true.mp (hs z hz) c hc)
  have cs:=fm ps
  have h1:(PyData.tuple (UL.eU ps)).showable=true:=by
    have:∀ zs:List (List Nat),PyData.showableAll (UL.eU zs)=true:=by
      intro zs
      induction zs with
      | nil=>rfl
      | cons z zs ih=>
        show(PyData.showable (.str (S z)) && PyData.showableAll (UL.eU zs))=true;rw[ih];rfl
    simp only[PyData.showable];exact this ps
  have h2:(PyData.tuple (UL.eU ps)).hasDict=false:=by
    have:∀ zs:List (List Nat),PyData.hasDictAll (UL.eU zs)=false:=by
      intro zs
      induction zs with
      | nil=>rfl
      | cons z zs ih=>
        show(PyData.hasDict (.str (S z)) || PyData.hasDictAll (UL.eU zs))=false;rw[ih];rfl
    simp only[PyData.hasDict];exact this ps
  have h3:(PyData.tuple (UL.eU ps)).depth<=40:=by
    have:=jr ps;simp only[PyData.depth];omega
  have h4:(PyData.tuple (UL.eU ps)).shown.length<=16777216:=by
    have e:(PyData.tuple (UL.eU ps)).shown=tupleText (PyData.shownAll (UL.eU ps)):=by simp only[PyData.shown]
    have em:UL.eU ps=(ps.map S).map PyData.str:=by rw[List.map_map];rfl
    rw[e,em,PyData.shownAll_strs];refine Nat.le_trans (tupleText_len_le _) ?_
    have:∀ xs:List (List Nat),(∀ z∈xs,∀ c∈z,c < 128)->(((xs.map S).map reprText).map (·.length)).sum<=10 * (xs.map List.length).sum + 2 * xs.length:=by
      intro xs
      induction xs with
      | nil=>intro _;simp
      | cons x xs ih=>
        intro hx;have h1:=ih fun z hz=>hx z (List.mem_cons_of_mem _ hz)
        have h2:=StrLaws.reprText_len (S x) (fun c hc=>by
          have:=hx x (List.mem_cons_self ..) c (by simpa[S] using hc)
          exact Nat.lt_trans this (by decide))
        have e:(S x).length=x.length:=by simp[S,Str.length]
        rw[e] at h2;simp only[List.map_cons,List.sum_cons,List.length_cons];omega
    have:=this ps hl;simp only[List.length_map];omega
  refine⟨(PyData.tuple (UL.eU ps)).shown.cps.toList,?_⟩;show mw (.tup (ps.map W.str))=_;unfold mw;rw[Ac ps 10];dsimp only;rw[if_pos (by rw[h1,h2,decide_eq_true h3,decide_eq_true h4];rfl)]

def pD (k c:Nat):Nat:=if isLt c=true then 97 + (c - 97 + k) % 26 else c
theorem A4 {c:Nat}:isLt c=true ↔ 97<=c/\c<=122:=by
  unfold isLt;simp
theorem GC {k c:Nat} (h:isLt c=true):isLt (pD k c)=true:=by
  unfold pD;rw[if_pos h,A4];omega
theorem DC (k:Nat):Sub (pD k) where
  e:=fun c=>by
    unfold pD
    by_cases hc:isLt c=true
    . rw[if_pos hc]
      rw[A4] at hc;omega
    . rw[if_neg hc]
  m:=fun c=>by
    unfold pD
    by_cases hc:isLt c=true
    . rw[if_pos hc]
      rw[A4] at hc;omega
    . rw[if_neg hc]
theorem xH {k c:Nat} (h:gE c=true):gE (pD k c)=true:=by
  by_cases hc:isLt c=true
  . have:=GC (k:=k) hc
    rw[<- yd,this];rfl
  . unfold pD
    rw[if_neg hc];exact h
theorem mR {f:Nat->Nat} (hf:∀ c,gE c=true->gE (f c)=true) {ps:List (List Nat)} (hs:∀ z∈ps,kA z=true):∀ z∈ps.map (List.map f),kA z=true:=fun z hz=>by
  obtain⟨y,hy,rfl⟩:=List.mem_map.mp hz;refine List.all_eq_true.mpr fun c hc=>?_
  obtain⟨d,hd,rfl⟩:=List.mem_map.mp hc;exact hf d (List.all_eq_true.mp (hs y hy) d hd)
theorem ly {f:Nat->Nat} {ps:List (List Nat)}:cost (ps.map (List.map f))=cost ps:=by
  unfold cost;rw[List.map_map]
  congr 1
  exact List.map_congr_left fun z _=>by simp
def lS:W:=.str [97,98,99,100,101,102,103,104,105,106,107,108,109,110,111,112,113,114,115,116,117,118,119,120,121,122]
theorem zt {c:Nat} {g:G} (h:isLt c=true):fD lS [.str [c]] g=some (.int ((c - 97:Nat):Int)):=by
  have key:∀ k:Fin 26,Builtin.Str.occurrences (UL.S mE) (UL.S [97 + k.val]) 0 (UL.S mE).length 1=[k.val]:=by decide +kernel
  rw[A4] at h;have:=key ⟨c - 97,by omega⟩
  rw[show 97 + (⟨c - 97,by omega⟩:Fin 26).val=c by simp;omega] at this
  have e:lS=.str mE:=rfl;unfold fD;rw[e];simp only[this]
theorem z5 {k:Nat} {g:G} (h:k < 26):gn lS (.int (k:Int)) g=some (.str [97 + k]):=by
  have key:∀ k:Fin 26,L2.atI mE (k.val:Int)=some (97 + k.val):=by decide +kernel
  have:=key ⟨k,h⟩;show gn (.str mE) (.int (k:Int)) g=_;rw[show gn (.str mE) (.int (k:Int)) g=(if mE.length<=16777216 then(L2.atI mE (k:Int)).map fun c=>.str [c] else none) from rfl,if_pos (by decide),this]
  rfl
theorem ud {c:Nat} {g:G}:iW false (.str [c]) lS g=some (.bl (isLt c)):=xl
structure Jw (p:List Nat) (n:Nat) (g0:G) (k:Nat) (we:cA) (g:G):Prop where
  out:∃ (x2 x5:Option W),we=[some (.str p),some (.int n),x2,some lS,some (.str ((p.take k).map (pD n))),x5]/\g=g0
theorem Ao {p:List Nat} {n:Nat} {g:G} (hl:p.length<=1000000) (hn:n<=1000):aQ (bT [.str p,.int n] g) fun u g'=>u=.str (p.map (pD n))/\g'=g:=by
  unfold bT;have e0:W.str [97,98,99,100,101,102,103,104,105,106,107,108,109,110,111,112,113,114,115,116,117,118,119,120,121,122]=lS:=rfl;rw[e0];simp;rw[ax];simp;rw[ax];refine oy ?_;simp;refine⟨by omega,Jw p n g,⟨none,none,rfl,rfl⟩,?_,?_⟩
  . rintro j hj we g2 ⟨x2,x5,rfl,rfl⟩
    have hpk:p.take (j + 1)=p.take j++[p[j]]:=by rw[List.take_succ,List.getElem?_eq_getElem hj];rfl
    have hpl:(p.take j).length<=1000000:=by simp;omega
    generalize p[j]=c at hpk
    simp;rw[ax,j5];refine aQ.mono (Q:=fun u g'=>u=.str [pD n c]/\g'=g2) ?_ ?_
    . by_cases h:isLt c=true
      . have hb:=h
        rw[A4] at hb;have e1:((c - 97:Nat):Int) + (n:Int)=((c - 97 + n:Nat):Int):=by omega
        have e2:pD n c=97 + (c - 97 + n) % 26:=by unfold pD;rw[if_pos h]
        have e3:se (.int ((c - 97 + n:Nat):Int)) (.int 26) g2=some (.int (((c - 97 + n) % 26:Nat):Int)):=by
          rw[lz (by decide),Int.natCast_emod]
          rfl
        simp only[DO,mU,gH,bR,gc,bA,dc,om,jD,gzZ,gsZ,aY,ud,h,sv,if_true,zt h,k8,e1,ue,e3,z5 (Nat.mod_lt (c - 97 + n) (by decide:26 > 0)),e2,and_self]
        exact⟨rfl,trivial⟩
      . have e2:pD n c=c:=by unfold pD;rw[if_neg h]
        simp[ud,h,e2]
    . rintro u g3 ⟨rfl,rfl⟩
      simp;refine⟨by omega,⟨some (.str [c]),some (.str [pD n c]),?_,rfl⟩⟩
      rw[hpk,List.map_append,List.map_take];rfl
  . rintro we g1 ⟨x2,x5,rfl,rfl⟩
    simp
def qC (c:Nat):Nat:=if c=44 then 113 else c
def jB:Rw->Bool
  | .tellBare=>false
  | .ifgo .mark _=>false
  | _=>true
theorem BV {c:Nat} (h:gE c=true):gE (qC c)=true:=by
  unfold qC;split
  . decide
  . exact h
theorem GX (x:List Nat):StrLaws.replL [44] [113] x=x.map qC:=by
  induction x with
  | nil=>rw[StrLaws.replL_nil];rfl
  | cons d r ih=>
    by_cases h:d=44
    . rw[StrLaws.replL_hit (by simp) (by simp[h]),List.map_cons,<- ih,qC,if_pos h]
      rfl
    . rw[StrLaws.replL_miss (by simp[h]),List.map_cons,<- ih,qC,if_neg h]
def Ps.map (f:Nat->Nat) (a:Ps):Ps:=⟨a.at_,a.line.map f,a.on,a.added,a.told.map (List.map f)⟩
theorem KR (s:List Nat):s.map qC=[59] ↔ s=[59]:=by
  constructor
  . intro h
    cases s with
    | nil=>cases h
    | cons c r=>
      cases r with
      | nil=>
        simp only[List.map_cons,List.map_nil,List.cons.injEq,and_true] at h;unfold qC at h;split at h
        . omega
        . rw[h]
      | cons _ _=>simp at h
  . intro h
    rw[h];rfl
theorem Ho {r:Rw} (hr:jB r=true) {s:List Nat} {a:Ps}:r.step (s.map qC) (a.map qC)=(r.step s a).map qC:=by
  cases r with
  | tellBare=>cases hr
  | tell=>simp[Rw.step,Ps.map]
  | clear=>simp[Rw.step,Ps.map]
  | on=>simp[Rw.step,Ps.map]
  | off=>simp[Rw.step,Ps.map]
  | go n=>simp[Rw.step,Ps.map]
  | add=>
    simp only[Rw.step,Ps.map,ne_eq,KR];split
    . simp
    . rfl
  | ifgo c n=>
    have e:c.holds (s.map qC) (a.line.map qC) a.on=c.holds s a.line a.on:=by
      cases c with
      | empty=>simp[Cd.holds]
      | on=>rfl
      | end_=>simp only[Cd.holds,KR]
      | mark=>cases hr
    simp only[Rw.step,Ps.map,e]
theorem xR {rs:List Rw} (hr:∀ r∈rs,jB r=true) {s:List Nat}:∀ (k:Nat) (a:Ps),cB rs (s.map qC) k (a.map qC)=(cB rs s k a).map qC
  | 0,a=>rfl
  | k + 1,a=>by
    rw[cB,cB];show(match rs[a.at_]? with | some r=>_ | none=>_)=_
    cases h:rs[a.at_]? with
    | none=>rfl
    | some r=>
      dsimp only;rw[Ho (hr r (List.mem_of_getElem? h)),xR hr k]
theorem vS {rs:List Rw} (hr:∀ r∈rs,jB r=true) {s:List Nat} {st:Ls}:feed rs (s.map qC) (st.map qC)=(feed rs s st).map qC:=by
  have p:jJ rs (s.map qC) (st.1.map qC) st.2.1=(jJ rs s st.1 st.2.1).map qC:=xR hr 12 ⟨0,st.1,st.2.1,false,[]⟩;unfold feed Ls.map;dsimp only;rw[p,List.map_append];rfl
theorem xb {e:List Rw} (hr:∀ r∈e,jB r=true):∀ (piece:List Nat) (st:Ls),(piece.map qC).foldl (fun st c=>feed e [c] st) (st.map qC)=(piece.foldl (fun st c=>feed e [c] st) st).map qC
  | [],st=>rfl
  | c::piece,st=>by
    rw[List.map_cons,List.foldl_cons,List.foldl_cons,<- xb hr piece]
    congr 1
    exact vS hr (s:=[c])
theorem tT {e q:List Rw} (he:∀ r∈e,jB r=true) (hq:∀ r∈q,jB r=true):∀ (ps:List (List Nat)) (st:Ls),(ps.map (List.map qC)).foldl (cw e q) (st.map qC)=(ps.foldl (cw e q) st).map qC
  | [],st=>rfl
  | p::ps,st=>by
    rw[List.map_cons,List.foldl_cons,List.foldl_cons,<- tT he hq ps]
    congr 1
    unfold cw;rw[xb he];exact vS hq (s:=[])
theorem A2 {e q l:List Rw} (he:∀ r∈e,jB r=true) (hq:∀ r∈q,jB r=true) (hl:∀ r∈l,jB r=true) {ps:List (List Nat)}:bW e q l (ps.map (List.map qC))=(bW e q l ps).map (List.map qC):=by
  unfold bW;have h1:=tT he hq ps ([],false,[]);have e0:Ls.map qC ([],false,[])=([],false,[]):=rfl;rw[e0] at h1;rw[h1];have h2:=vS hl (s:=[]) (st:=ps.foldl (cw e q) ([],false,[]));rw[List.map_nil] at h2;rw[h2];rfl
def hasB (x y:List Nat):Bool:=!(Builtin.Str.occurrences (UL.S y) (UL.S x) 0 (UL.S y).length 1).isEmpty
def sd:List Nat:=[109,97,114,107]
def vE:List Nat:=[98,97,114,101]
theorem EW (n:Nat) (h:n<=20):(hasB sd (Rw.go n).text || hasB vE (Rw.go n).text)=false/\(hasB sd (Rw.ifgo .empty n).text || hasB vE (Rw.ifgo .empty n).text)=false/\(hasB sd (Rw.ifgo .on n).text || hasB vE (Rw.ifgo .on n).text)=false/\(hasB sd (Rw.ifgo .end_ n).text || hasB vE (Rw.ifgo .end_ n).text)=false/\hasB sd (Rw.ifgo .mark n).text=true:=by
  have:∀ n:Fin 21,(((hasB sd (Rw.go n.val).text || hasB vE (Rw.go n.val).text) == false) && (((hasB sd (Rw.ifgo .empty n.val).text || hasB vE (Rw.ifgo .empty n.val).text) == false) && (((hasB sd (Rw.ifgo .on n.val).text || hasB vE (Rw.ifgo .on n.val).text) == false) && (((hasB sd (Rw.ifgo .end_ n.val).text || hasB vE (Rw.ifgo .end_ n.val).text) == false) && hasB sd (Rw.ifgo .mark n.val).text))))=true:=by decide +kernel
  have:=this ⟨n,by omega⟩
  simp only[Bool.and_eq_true,beq_iff_eq] at this;exact⟨this.1,this.2.1,this.2.2.1,this.2.2.2.1,this.2.2.2.2⟩
theorem Dc {each:Bool} {i many:Nat} {r:Rw} (ok:r.ok each i many) (hm:many<=20):(hasB sd r.text || hasB vE r.text)=!jB r:=by
  have hs:=Rw.jI ok hm;cases r with
  | go n=>exact(EW n hs).1
  | ifgo c n=>
    have:=EW n hs;cases c with
    | empty=>exact this.2.1
    | on=>exact this.2.2.1
    | end_=>exact this.2.2.2.1
    | mark=>rw[this.2.2.2.2];rfl
  | _=>decide +kernel
theorem nI {each:Bool} {rs:List Rw} (pk:dH each rs) (hl:rs.length<=20):∀ r∈rs,(hasB sd r.text || hasB vE r.text)=!jB r:=fun r hr=>by
  obtain⟨i,hi⟩:=List.getElem?_of_mem hr;exact Dc (pk i r hi) hl
structure R15 (r:G) (we:cA) (g:G):Prop where
  out:∃ (x1 x2 x3 x4 x5 x6 x7 x8 x9 x10 x11 x12 x13 x14:Option W),we=[some (.d6 0),x1,x2,x3,x4,x5,x6,x7,x8,x9,x10,x11,x12,x13,x14]/\Sg r g
theorem qI {ps:List (List Nat)} (hs:∀ z∈ps,kA z=true) (hc:cost ps<=1000000):∃ x,∀ g:G,dQ [eH ps] g=some (.str x):=by
  obtain⟨x,hx⟩:=zm hs hc;exact⟨x,fun g=>by unfold dQ;dsimp only;rw[hx];rfl⟩
theorem xA {ps:List (List Nat)} {z:List Nat} (hz:z∈ps):z.length + ps.length<=cost ps:=by
  have cs:=fm ps;have:=(List.sublist_flatten_of_mem hz).length_le;rw[nE] at this;omega
theorem uq {ps:List (List Nat)} {g:G} (hc:cost ps<=1000000):joinM (.str []) [eH ps] g=some (.str ps.flatten):=by
  have cs:=fm ps;unfold eH;rw[yK (by simp;omega)]
  simp[jX]
structure CN (s:Ps):Prop where
  ln:59 ∉ s.line
  td:∀ z∈s.told,59 ∉ z
theorem qt {told:List (List Nat)} {z:List Nat} (h:∀ y∈told,59 ∉ y) (hz:59 ∉ z):∀ y∈told++[z],59 ∉ y:=fun y hy=>by
  rcases List.mem_append.mp hy with hy | hy
  . exact h y hy
  . rw[List.mem_singleton.mp hy]
    exact hz
theorem ED {r:Rw} {sign:List Nat} {s:Ps} (hs:sign≠[59]->59 ∉ sign) (h:CN s):CN (r.step sign s):=by
  obtain⟨h1,h2⟩:=h
  have hb:59 ∉ fj s.line:=fun hm=>h1 (by
    unfold fj at hm;split at hm
    . exact List.dropLast_subset _ hm
    . exact hm)
  cases r with
  | tell=>exact⟨by simp[Rw.step],qt h2 h1⟩
  | tellBare=>exact⟨by simp[Rw.step],qt h2 hb⟩
  | clear=>exact⟨by simp[Rw.step],h2⟩
  | on=>exact⟨h1,h2⟩
  | off=>exact⟨h1,h2⟩
  | add=>
    simp only[Rw.step];split
    . rename_i hc
      refine⟨fun hm=>?_,h2⟩
      rcases List.mem_append.mp hm with hm | hm
      . exact h1 hm
      . exact hs hc.1 hm
    . exact⟨h1,h2⟩
  | go n=>exact⟨h1,h2⟩
  | ifgo c n=>exact⟨h1,h2⟩
theorem uO {rs:List Rw} {sign:List Nat} (hs:sign≠[59]->59 ∉ sign):∀ (k:Nat) (s:Ps),CN s->CN (cB rs sign k s)
  | 0,s,h=>h
  | k + 1,s,h=>by
    rw[cB];split
    . exact uO hs k _ (ED hs h)
    . exact h
structure yn (st:Ls):Prop where
  ln:59 ∉ st.1
  td:∀ z∈st.2.2,59 ∉ z
theorem rH {rs:List Rw} {sign:List Nat} {st:Ls} (hs:sign≠[59]->59 ∉ sign) (h:yn st):yn (feed rs sign st):=by
  have p:=uO (rs:=rs) hs 12 ⟨0,st.1,st.2.1,false,[]⟩ ⟨h.ln,fun z hz=>by cases hz⟩
  refine⟨p.ln,fun z hz=>?_⟩
  rcases List.mem_append.mp hz with hz | hz
  . exact h.td z hz
  . exact p.td z hz
theorem tU {e:List Rw}:∀ (piece:List Nat) (st:Ls),yn st->yn (piece.foldl (fun st c=>feed e [c] st) st)
  | [],st,h=>h
  | c::piece,st,h=>by
    rw[List.foldl_cons];refine tU piece _ (rH (fun n hm=>?_) h)
    rw[List.mem_singleton] at hm;exact n (by rw[hm])
theorem qy {e q:List Rw}:∀ (ps:List (List Nat)) (st:Ls),yn st->yn (ps.foldl (cw e q) st)
  | [],st,h=>h
  | p::ps,st,h=>by
    rw[List.foldl_cons];exact qy ps _ (rH (by simp) (tU p st h))
theorem yN {e q l:List Rw} {ps:List (List Nat)}:∀ z∈bW e q l ps,59 ∉ z:=
  (rH (by simp) (qy ps ([],false,[]) ⟨by simp,fun z hz=>by cases hz⟩)).td
theorem yO {e q l:List Rw} {ps:List (List Nat)} (hs:∀ z∈ps,kA z=true):∀ z∈bW e q l ps,kA z=true:=fun z hz=>by
  have:=v7 (P:=fun c=>gE c=true) (fun p hp c hc=>List.all_eq_true.mp (hs p hp) c hc) z hz
  exact List.all_eq_true.mpr this
theorem FO {xs:List W} {g:G} (h:∀ x∈xs,x=.bl false):anyB [.lst xs] g=some (.bl false):=by
  have e:xs=(xs.map fun _=>false).map W.bl:=by
    rw[List.map_map];refine List.ext_getElem (by simp) fun i h1 h2=>?_
    rw[h _ (List.getElem_mem h1)];simp
  rw[e,tu];simp
theorem tQ {ps:List (List Nat)} {we:cA} {g:G} {i j n v:Nat} {Q:W->G->Prop} (hi:we[i]?=some (some (eH ps))) (hs:∀ x,aQ (aG j x (wipe we [j]) g) fun we1 g1=>we1[j]?=some (some x)/\we1[v]?=some (some (.int (n:Nat)))/\g1=g) (hn:n<=1000) (hc:cost ps<=1000000) (h:Q (eH (ps.map (List.map (pD n)))) g) :
    aQ (aS bH (aa (bj (dZ (ah i)) (aG j) b9 (aC bT (aa (ah j) (aa (ah v) ai))) [j]) ai) we g) Q:=by
  have cs:=fm ps;rw[gc,bA];refine gO (fun x=>match x with | .str z=>.str (z.map (pD n)) | _=>.non) ?_
  have hm:(ps.map W.str).map (fun x=>match x with | .str z=>W.str (z.map (pD n)) | _=>.non)=(ps.map (List.map (pD n))).map W.str:=by
    rw[List.map_map,List.map_map];rfl
  simp only[jH,bR,hi,aY,eH,fL];refine⟨by simp;omega,fun x hx=>?_,?_⟩
  . obtain⟨z,hz,rfl⟩:=List.mem_map.mp hx
    refine(hs _).mono ?_;rintro we1 g2 ⟨h1,h2,rfl⟩;simp only[uI,gN,bA,bR,dc,h1,h2,aY];refine⟨by first | rfl | trivial,(Ao (by have:=xA hz;omega) hn).mono ?_⟩
    rintro u g5 ⟨rfl,rfl⟩;exact⟨rfl,rfl⟩
  . simp only[dc,hm]
    exact h
theorem uR {ps:List (List Nat)} {we:cA} {g:G} {i j:Nat} {Q:W->G->Prop} (hi:we[i]?=some (some (eH ps))) (hs:∀ x,aQ (aG j x (wipe we [j]) g) fun we1 g1=>we1[j]?=some (some x)/\g1=g) (hc:cost ps<=1000000) (h:Q (eH (ps.map (List.map qC))) g) :
    aQ (aS bH (aa (bj (dZ (ah i)) (aG j) b9 (jM (ah j) [44] [113]) [j]) ai) we g) Q:=by
  have cs:=fm ps;rw[gc,bA];refine gO (fun x=>match x with | .str z=>.str (z.map qC) | _=>.non) ?_
  have hm:(ps.map W.str).map (fun x=>match x with | .str z=>W.str (z.map qC) | _=>.non)=(ps.map (List.map qC)).map W.str:=by
    rw[List.map_map,List.map_map];rfl
  simp only[jH,bR,hi,aY,eH,fL];refine⟨by simp;omega,fun x hx=>?_,?_⟩
  . obtain⟨z,hz,rfl⟩:=List.mem_map.mp hx
    have hzl:=xA hz;refine(hs _).mono ?_;rintro we1 g2 ⟨h1,rfl⟩;unfold jM;simp only[uI,aN,bR,h1,aY];refine⟨by first | rfl | trivial,?_⟩
    rw[if_pos ⟨by simp only[List.length_cons,List.length_nil];omega,by simp⟩,cH]
    exact⟨by rw[GX],rfl⟩
  . simp only[dc,hm]
    exact h
theorem uT {e q l:List Rw} {g:G} (g3:Good3 e q l):addW (bB e) (bB q) g=some (bB (e++q))/\addW (bB (e++q)) (bB l) g=some (bB (e++q++l)):=by
  have a:=g3.e2;have b:=g3.q2;have c:=g3.l2
  constructor
  . unfold bB
    simp;omega
  . unfold bB
    simp;omega
theorem oN {r g:G} (s:Sg r g):aQ (gF [.d6 0] g) fun u g'=>u=.bl true/\Sg r g':=by
  unfold gF;simp;rw[ax];refine lE (jG ?_);simp;refine⟨by simp[cI],fun _=>R15 r,⟨_,_,_,_,_,_,_,_,_,_,_,_,_,_,rfl,s⟩,?_,?_⟩
  . rintro x xs we g ⟨x1,x2,x3,x4,x5,x6,x7,x8,x9,x10,x11,x12,x13,x14,rfl,s⟩
    simp;rw[ax];simp;refine(BN s).mono ?_;rintro u g1 ⟨e,q,l,rfl,g3,s1⟩;refine(ze s1).mono ?_;rintro u g2 ⟨⟨ps,rfl,P⟩,s2⟩;have hc:cost ps<=50:=by have:=P.cost;omega
    rw[ax];simp;refine(DA g3).mono ?_;rintro u g2b ⟨rfl,rfl⟩;refine(ft s2 (by decide) (by decide)).mono ?_
    rintro u g3' ⟨k,rfl,hk,s3⟩
    have ha:∀ g,addW (.int 1) (.int (k:Int)) g=some (.int ((1 + k:Nat):Int)):=fun g=>by
      rw[k8]
      congr 2
    rw[ha,aY];have hn:1 + k<=1000:=by omega
    generalize 1 + k=n at hn ⊢
    have L59:∀ z∈bW e q l ps,59 ∉ z:=yN
    have Lsg:=yO (e:=e) (q:=q) (l:=l) P.sg
    have Lc:cost (bW e q l ps)<=1000:=by
      have h1:=uu (e:=e) (q:=q) (l:=l) (ps:=ps);have h2:=uv (e:=e) (q:=q) (l:=l) (ps:=ps);have h3:=fm (bW e q l ps);omega
    have Lcn:∀ c,(bW e q l ps).flatten.count c<=ps.flatten.count c:=fun c=>v8
    have Lsub:bW e q l (ps.map (List.map (pD n)))=(bW e q l ps).map (List.map (pD n)):=v9 (DC n);rw[ax,j1,BB,bA,gN];simp only[bA,bR,dc,gzZ,gsZ,aY];refine(l0 g3 P.sg (by omega)).mono ?_
    rintro u g4 ⟨rfl,rfl⟩;simp only[om,jD,bA,bR,dc,gzZ,gsZ,aY,uq (ps:=ps) (g:=g4) (by omega),BC,Cb,yW,iL,Bx,List.set_cons_zero,List.set_cons_succ]
    refine⟨rfl,by simp,rfl,?_⟩
    rw[ax,j5,gN];simp only[bA,bR,gzZ,gsZ,aY];refine tQ (n:=n) rfl (fun x=>by rw[iL];exact⟨rfl,rfl,rfl⟩) hn (by omega) ?_
    simp only[dc];refine(l0 g3 (mR (fun c=>xH) P.sg) (by rw[ly];omega)).mono ?_
    rintro u g5 ⟨rfl,rfl⟩;rw[Lsub]
    generalize hLL:bW e q l ps=L at L59 Lsg Lc Lcn ⊢
    obtain⟨z1,hz1⟩:=qI (ps:=L.map (List.map (pD n))) (mR (fun c=>xH) Lsg) (by rw[ly];omega)
    simp only[List.set_cons_zero,List.set_cons_succ];rw[ax];refine j4 (b:=false) ?_ (fun h=>by cases h) (fun _=>?_)
    . rw[mU,gH,gc]
      simp only[bA,bR,dc,gzZ,gsZ,aY,hz1];rw[gc,bA];refine tQ (n:=n) rfl (fun x=>by rw[iL];exact⟨rfl,rfl,rfl⟩) hn (by omega) ?_
      simp[hz1]
    dsimp only;rw[ax];refine j4 (b:=false) ?_ (fun h=>by cases h) (fun _=>?_)
    . rw[uH,gc,bA]
      refine gO (fun _=>.bl false) ?_
      rw[jH,om,jD];have jt:∀ g,joinM (.str []) [eH L] g=some (.str L.flatten):=fun g=>uq (by omega)
      have fl:=nE L;have cl:=fm L;simp only[bA,bR,dc,gzZ,gsZ,aY,jt,fL];refine⟨by simp,by rw[List.length_map,fl];omega,fun x hx=>?_,?_⟩
      . obtain⟨c,hc,rfl⟩:=List.mem_map.mp hx
        have:=Lcn c;simp[jt,zq];omega
      . have:=FO (xs:=(L.flatten.map fun c=>W.str [c]).map fun _=>W.bl false) (g:=g5) (fun x hx=>by
          obtain⟨y,_,rfl⟩:=List.mem_map.mp hx;rfl)
        rw[this];simp
    dsimp only;rw[ax];refine j4 (b:=false) ?_ (fun h=>by cases h) (fun _=>?_)
    . rw[mU,gH]
      refine yV (fun _=>false) (fun x=>x) ?_
      have cl:=fm L;simp only[jH,bR,gzZ,gsZ,aY,eH,fL];refine⟨by simp;omega,fun x hx=>?_,?_⟩
      . obtain⟨z,hz,rfl⟩:=List.mem_map.mp hx
        have:=L59 z hz;simp[this]
      . have:∀ g,wg (.lst []) (.lst []) g=some (.bl false):=fun _=>rfl
        have e:((L.map W.str).filter fun _=>false).map (fun x=>x)=[]:=by simp
        rw[e];simp[this]
    dsimp only;rw[ax,j5];simp only[gH,bR,jD,gzZ,gsZ,aY];have i0:∀ g,gn (c9 e q l) (.int 0) g=some (bB e):=fun _=>rfl
    have i1:∀ g,gn (c9 e q l) (.int 1) g=some (bB q):=fun _=>rfl
    have i2:∀ g,gn (c9 e q l) (.int 2) g=some (bB l):=fun _=>rfl
    simp only[i0,i1,i2,aY,(uT g3).1,(uT g3).2,List.set_cons_zero,List.set_cons_succ];have a:=g3.e2;have b:=g3.q2;have c:=g3.l2
    have hr:∀ r∈e++q++l,(hasB sd r.text || hasB vE r.text)=!jB r:=fun r hr=>by
      rcases List.mem_append.mp hr with hr | hr
      . rcases List.mem_append.mp hr with hr | hr
        . exact nI g3.pe (by omega) r hr
        . exact nI g3.pq (by omega) r hr
      . exact nI g3.pl (by omega) r hr
    refine j4 (b:=(e++q++l).all jB) ?_ (fun hb=>?_) (fun _=>?_)
    . rw[By,uH,gc,bA]
      refine gO (fun x=>match x with | .str z=>.bl (hasB sd z || hasB vE z) | _=>.non) ?_
      simp only[jH,bR,gzZ,gsZ,aY,bB,fL];refine⟨by simp;omega,fun x hx=>?_,?_⟩
      . obtain⟨w,hw,rfl⟩:=List.mem_map.mp hx
        have sm:∀ g,qV (.str [109,97,114,107]) (.str w.text) g=some (.bl (hasB sd w.text)):=fun _=>rfl
        have sb:∀ g,qV (.str [98,97,114,101]) (.str w.text) g=some (.bl (hasB vE w.text)):=fun _=>rfl
        cases h:hasB sd w.text<;>simp[sm,sb,h,bP]
      . have e0:((e++q++l).map bP).map (fun x=>match x with | .str z=>W.bl (hasB sd z || hasB vE z) | _=>.non)=((e++q++l).map fun w:Rw=>hasB sd w.text || hasB vE w.text).map W.bl:=by
          rw[List.map_map,List.map_map];rfl
        have e2:((e++q++l).map fun w:Rw=>hasB sd w.text || hasB vE w.text)=(e++q++l).map fun w=>!jB w:=List.map_congr_left hr
        rw[e0,e2]
        have e3:∀ xs:List Rw,(!((xs.map fun w=>!jB w).any fun b=>b))=xs.all jB:=fun xs=>by
          induction xs with
          | nil=>rfl
          | cons x xs ih=>rw[List.map_cons,List.any_cons,List.all_cons,<- ih];cases jB x<;>rfl
        simp only[dc,tu,aY,EF];exact⟨e3 _,by first | rfl | trivial⟩
    . have hb:=List.all_eq_true.mp hb
      have Lq:bW e q l (ps.map (List.map qC))=(bW e q l ps).map (List.map qC):=A2 (fun r hr=>hb r (by simp[hr])) (fun r hr=>hb r (by simp[hr])) (fun r hr=>hb r (by simp[hr]))
      rw[ax,j5];refine uR rfl (fun x=>by rw[iL];exact⟨rfl,rfl⟩) (by omega) ?_
      simp only[List.set_cons_zero,List.set_cons_succ];rw[ax,j5];refine uR rfl (fun x=>by rw[iL];exact⟨rfl,rfl⟩) (by omega) ?_
      simp only[List.set_cons_zero,List.set_cons_succ];obtain⟨z2,hz2⟩:=qI (ps:=L.map (List.map qC)) (mR (fun c=>BV) Lsg) (by rw[ly];omega)
      refine j4 (b:=false) ?_ (fun h=>by cases h) (fun _=>?_)
      . rw[mU,gH,gc,bA,gN]
        simp only[bA,bR,dc,gzZ,gsZ,aY];refine(l0 g3 (mR (fun c=>BV) P.sg) (by rw[ly];omega)).mono ?_
        rintro u g6 ⟨rfl,rfl⟩;rw[Lq,hLL];simp[hz2]
      . exact⟨_,_,_,_,_,_,_,_,_,_,_,_,_,_,rfl,s3⟩
    . exact⟨_,_,_,_,_,_,_,_,_,_,_,_,_,_,rfl,s3⟩
  . rintro we g ⟨x1,x2,x3,x4,x5,x6,x7,x8,x9,x10,x11,x12,x13,x14,rfl,s⟩
    exact s

end LP
namespace LW
open PySem PySem.Spec PyProof.Rows L2 UL
structure Gr (h h':Hm):Prop where
  le:h.length<=h'.length
  keep:∀ i,i < h.length->h'[i]?=h[i]?
theorem Gr.refl {h:Hm}:Gr h h:=⟨Nat.le_refl _,fun _ _=>rfl⟩
theorem Gr.trans {h h' h'':Hm} (a:Gr h h') (b:Gr h' h''):Gr h h'':=
  ⟨Nat.le_trans a.le b.le,fun i hi=>(b.keep i (Nat.lt_of_lt_of_le hi a.le)).trans (a.keep i hi)⟩
theorem Gr.app {h h':Hm} (a:Gr h h') (g:Hm):Gr h (h'++g):=
  ⟨by rw[List.length_append];have:=a.le;omega,fun i hi=>by rw[List.getElem?_append_left (Nat.lt_of_lt_of_le hi a.le)];exact a.keep i hi⟩
theorem Gr.new {h g:Hm}:Gr h (h++g):=Gr.refl.app g
theorem Gr.set {D:Nat} {h h':Hm} {o:O} (a:Gr h h') (hD:h.length<=D):Gr h (h'.set D o):=
  ⟨by rw[List.length_set];exact a.le,fun i hi=>by rw[List.getElem?_set_ne (by omega)];exact a.keep i hi⟩
theorem Gr.at {m:Nat} {h h':Hm} {o:O} (a:Gr h h') (e:h[m]?=some o):h'[m]?=some o:=(a.keep m (gEsZ.mp e).1).trans e
theorem _root_.UL.Fr.gr {p:Nat} {h h' h'':Hm} (a:Fr p h h') (b:Gr h' h''):Fr p h h'':=by
  refine⟨Nat.le_trans a.le b.le,fun i hi hp=>(b.keep i (Nat.lt_of_lt_of_le hi a.le)).trans (a.keep i hi hp),?_⟩
  obtain⟨x,y,z,e,r⟩:=a.sp;exact⟨x,y,z,b.at e,r⟩
@[simp] theorem ug {cs:List Str} {z:List Nat} {h:Hm}:ei cs [.str z,.ty "str"] h=some (.bl true,h):=by simp[ei,eM,pF,uf]
@[simp] theorem isiB_tup {cs:List Str} {us:List U} {h:Hm}:ei cs [.tup us,.ty "tuple"] h=some (.bl true,h):=by simp[ei,eM,pF,uf]
theorem xk {u w:U} {us:List U} {h:Hm} (e:cR w h=some us):Av u w h=if ia u && us.all ia then some (us.any fun y=>ET y u) else none:=by
  unfold Av;split
  . cases e
  . rw[e]
theorem all_strs (zs:List (List Nat)):(zs.map U.str).all ia=true:=by
  rw[List.all_map];exact List.all_eq_true.mpr fun _ _=>rfl
theorem tx (zs:List (List Nat)) (z:List Nat):(zs.map U.str).any (fun y=>ET y (.str z))=decide (z∈zs):=by
  rw[List.any_map]
  induction zs with
  | nil=>rfl
  | cons x zs ih=>
    rw[List.any_cons,ih];show((x == z) || _)=_
    by_cases h:x=z
    . subst h;simp
    . have:¬ z=x:=fun e=>h e.symm
      simp[h,this]
theorem Dd {z:List Nat} {zs:List (List Nat)} {h:Hm}:Av (.str z) (.tup (zs.map U.str)) h=some (decide (z∈zs)):=by
  rw[xk (us:=zs.map U.str) rfl,all_strs,tx];rfl
theorem mM {neg:Bool} {z:List Nat} {zs:List (List Nat)} {h:Hm}:iW neg (.str z) (.tup (zs.map U.str)) h=some (.bl (if neg then !decide (z∈zs) else decide (z∈zs)),h):=by
  show yE neg _ _ h=_;unfold yE;rw[Dd];rfl
theorem xj {neg:Bool} {z:List Nat} {zs:List (List Nat)} {m:Nat} {h:Hm} (e:h[m]?=some (.lst (zs.map U.str))):iW neg (.str z) (.ref m) h=some (.bl (if neg then !decide (z∈zs) else decide (z∈zs)),h):=by
  unfold iW;dsimp only;rw[e];dsimp only;unfold yE;rw[xk (us:=zs.map U.str) (by simp[cR,e]),all_strs,tx]
  rfl
theorem A0 {z:List Nat} {h:Hm} (hl:z.length<=16777216):eA [.str z] h=some (.int z.length,h):=by simp[eA,hl]
@[simp] theorem A1 {us:List U} {h:Hm}:eA [.tup us] h=some (.int us.length,h):=rfl
theorem AZ {us:List U} {m:Nat} {h:Hm} (e:h[m]?=some (.lst us)):eA [.ref m] h=some (.int us.length,h):=by simp[eA,cR,e]
theorem o4:∀ zs:List (List Nat),strsOf (zs.map U.str)=some zs
  | []=>rfl
  | z::zs=>by simp[strsOf,o4 zs]
theorem iH {a:List Nat} {m:Nat} {zs:List (List Nat)} {h:Hm} (e:h[m]?=some (.lst (zs.map U.str))) (hl:(zs.map List.length).sum + zs.length * a.length<=16777216):joinM (.str a) [.ref m] h=some (.str (joinL a zs),h):=by
  unfold joinM;simp only[cR,e,o4,if_pos hl]
theorem BF {α:Type} {o:Option (α × Hm)} {a:α} {h:Hm} {P:α->Hm->Prop} (e:o=some (a,h)) (p:P a h):cN (bZ o) P:=by rw[e,uJ];exact p
@[simp] theorem iaddU_int {i j:Int} {h:Hm}:qf (.int i) (.int j) h=some (.int (i + j),h):=rfl
@[simp] theorem truU_bl {b:Bool} {h:Hm}:ki (.bl b) h=some b:=rfl

structure zP (src:Src) (q:FG) (b:FS) (su:En) (h:Hm) (D:Es):Prop where
  out:∃ (cnt:Nat) (Iv:Nat->En->Hm->Prop),cnt < gZ/\Iv 0 su h/\(∀ i su h,i < cnt->Iv i su h->∃ u,src i h=some (some u)/\cN (q u su h) fun su1 h1=>l4 (b su1 h1) { nx:=Iv (i + 1),rt:=D.rt,bk:=D.nx,ct:=Iv (i + 1) }) /\
    ∀ su h,Iv cnt su h->src cnt h=some none/\D.nx su h
theorem Br {fi:FI} {q:FG} {b:FS} {su:En} {h:Hm} {D:Es} (hi:cN (fi su h) fun src h1=>zP src q b su h1 D):l4 (gb fi q b su h) D:=DM (hi.mono fun _ _ p=>p.out)
theorem zP.mk' {src:Src} {q:FG} {b:FS} {su:En} {h:Hm} {D:Es} (cnt:Nat) (Iv:Nat->En->Hm->Prop) (hc:cnt < gZ) (h0:Iv 0 su h) (hs:∀ i su h,i < cnt->Iv i su h->∃ u,src i h=some (some u)/\cN (q u su h) fun su1 h1=>l4 (b su1 h1) { nx:=Iv (i + 1),rt:=D.rt,bk:=D.nx,ct:=Iv (i + 1) })
    (he:∀ su h,Iv cnt su h->src cnt h=some none/\D.nx su h):zP src q b su h D:=⟨cnt,Iv,hc,h0,hs,he⟩
structure Cont (g:FS) (D:Es) (su:En) (h:Hm):Prop where
  out:l4 (g su h) D
structure CompX (p:Nat) (h h1:Hm) (src:Src) (q:FG) (fe:FE) (su:En) (vs:List Nat) (M:Nat) (A:U->Prop):Prop where
  fr:Fr p h h1
  out:∃ cnt,cnt<=M/\(∀ i h',i < cnt->Fr p h1 h'->∃ u,src i h'=some (some u)/\cN (q u (iw su vs) h') fun su1 h2=>cN (fe su1 h2) fun y h3=>A y/\Fr p h' h3)/\∀ h',Fr p h1 h'->src cnt h'=some none
structure CompP (p:Nat) (h:Hm) (M:Nat) (A:U->Prop) (u:U) (h':Hm):Prop where
  out:∃ (ys:List U) (m:Nat),u=.ref m/\h.length<=m/\h'[m]?=some (.lst ys)/\ys.length<=M/\(∀ y∈ys,A y)/\Fr p h h'
structure HH (h h1:Hm) (src:Src) (q:FG) (fe:FE) (su:En) (vs:List Nat) (A:U->Prop):Prop where
  fr:Gr h h1
  out:∃ cnt,cnt<=16777216/\(∀ i h',i < cnt->Gr h1 h'->∃ u,src i h'=some (some u)/\cN (q u (iw su vs) h') fun su1 h2=>cN (fe su1 h2) fun y h3=>A y/\Gr h' h3)/\∀ h',Gr h1 h'->src cnt h'=some none
theorem z9 {h:Hm} {su:En} {fi:FI} {q:FG} {fe:FE} {vs:List Nat} (A:U->Prop) (hi:cN (fi su h) fun src h1=>HH h h1 src q fe su vs A):cN (bj fi q b9 fe vs su h) fun u h'=>∃ (ys:List U) (m:Nat),u=.ref m/\h.length<=m/\h'[m]?=some (.lst ys)/\(∀ y∈ys,A y)/\Gr h h':=by
  refine BD (hi.mono fun src h1 ⟨f1,cnt,hM,hs,he⟩=>⟨cnt,fun i acc h'=>acc.length=i/\(∀ y∈acc,A y)/\Gr h1 h'/\h1.length < h'.length,xE (by omega),⟨rfl,fun y e=>by simp at e,Gr.new,by simp⟩,?_,?_⟩)
  . rintro i acc h2 hlt ⟨hl,ha,f2,hlen⟩ hDn
    obtain⟨u,e1,e2⟩:=hs i h2 hlt f2;refine⟨u,e1,e2.mono fun su1 h3 e3=>?_⟩
    rw[BG,if_pos rfl];refine e3.mono fun y h4 ⟨ay,f3⟩=>⟨(f3.keep _ hlen).trans hDn,by omega,by simp[hl],fun z e=>?_,(f2.trans f3).set (Nat.le_refl _),by rw[List.length_set];have:=f3.le;omega⟩
    rcases List.mem_append.mp e with e | e
    . exact ha z e
    . rw[List.mem_singleton] at e;subst e;exact ay
  . rintro acc h2 ⟨hl,ha,f2,hlen⟩ hDn
    exact⟨he h2 f2,acc,h1.length,rfl,f1.le,hDn,ha,f1.trans f2⟩

theorem pY:∀ bs:List Bool,k9 (bs.map U.bl)=some bs
  | []=>rfl
  | b::bs=>by simp[k9,pY bs]
theorem zZ {m:Nat} {bs:List Bool} {h:Hm} (e:h[m]?=some (.lst (bs.map U.bl))):UL.allB [.ref m] h=some (.bl (bs.all fun b=>b),h):=by
  simp[UL.allB,nZ,e,pY]

theorem Dj {h:Hm} {r:Nat} {us:List U} {i:Int} (e:h[r]?=some (.fro us)):vF (.ref r) (.int i) h=(atI us i).map fun v=>(v,h):=by
  unfold vF;dsimp only;rw[e];dsimp only;unfold yH;simp only[cR,e]
theorem AY {us:List U} {m:Nat} {h:Hm} (e:h[m]?=some (.fro us)):eA [.ref m] h=some (.int us.length,h):=by simp[eA,cR,e]
theorem Dr {h:Hm} {r:Nat} {us:List U} {i:Int} (e:h[r]?=some (.fro us)):UL.ixN (.ref r) (.int i) h=(atI us i).map fun v=>(v,h):=by
  unfold UL.ixN;simp only[e];exact Dj e
theorem nW {us:List U} {m:Nat} {h:Hm} (e:h[m]?=some (.fro us)):hB [.ref m] h=some (.int us.length,h):=by
  unfold hB;simp only[e];exact AY e
theorem Er {m:Nat} {us:List U} {lo hi:Option Int} {h:Hm} (e:h[m]?=some (.fro us)):Ep (.ref m) lo hi h=some (.ref h.length,h++[.lst (cutU us lo hi)]):=by simp[Ep,e]
theorem zX {a b:Nat} {us ws:List U} {h:Hm} (e1:h[a]?=some (.lst us)) (e2:h[b]?=some (.lst ws)) (hl:us.length + ws.length<=16777216):cP (.ref a) (.ref b) h=some (.ref h.length,h++[.lst (us++ws)]):=by
  simp[cP,e1,e2,hl]
theorem zC {ns:List Int} {k:Nat} {h:Hm} (e0:h[0]?=some (.fro (ns.map U.int))) (hk:k<=100) (hl:ns.length<=100):cN (d9 [.ref 0,.int k] h) fun u h'=>∃ p:Nat,u=.ref p/\h.length<=p/\Sp p h'/\Gr h h':=by
  unfold d9;simp[-j0];rw[j0,DN];refine cN.mono (P:=fun u h1=>(∃ c:Int,u=.int c)/\h1=h) ?_ ?_
  . simp[nW e0]
    split
    . rename_i hlt
      rw[Dr e0,w1 (by omega) (by simpa using hlt)]
      simp[hlt]
    . rw[wc (show small64 7=true by decide)]
      simp
  rintro u h1 ⟨⟨c,rfl⟩,rfl⟩
  have cu:∃ xs:List Int,cutU (ns.map U.int) none (some 8)++[U.int c]=xs.map U.int/\xs.length<=101:=by
    refine⟨(cutU ns none (some 8))++[c],?_,?_⟩
    . unfold cutU
      rw[HT.sIx_none,HT.sIx_none];simp
    . unfold cutU
      rw[HT.sIx_none];simp;omega
  obtain⟨xs,ex,x2⟩:=cu
  have cl:(cutU (ns.map U.int) none (some 8)).length + 1<=101:=by
    have:=congrArg List.length ex;simp at this;omega
  dsimp only;rw[j0];simp[-j0,wc (show small64 7919=true by decide)]
  rw[j0];refine Br ?_;simp[-j0,Er e0];rw[zX (us:=cutU (ns.map U.int) none (some 8)) (ws:=[U.int c]) (by simp) (by simp) (by simp;omega)]
  rw[uJ]
  generalize eh:h1++_++_=h2
  have g2:Gr h1 h2:=by rw[<- eh];exact Gr.new.app _
  have ed:∀ h3,Gr h2 h3->h3[h1.length + 2]?=some (.lst (xs.map U.int)):=fun h3 g3=>g3.at (by rw[<- eh,<- ex];simp)
  refine⟨by simp[km,ed h2 Gr.refl],.mk' xs.length (fun i su h'=>h'=h2/\∃ (b:Int) (x4:Option U),su=[some (.ref 0),some (.int k),some (.int c),some (.int b),x4]/\0<=b/\(0 < i->b < 2147483647)) (xE (by omega)) ⟨rfl,_,_,rfl,by omega,fun z=>absurd z (by decide)⟩ ?_ ?_⟩
  . rintro i su h' hi ⟨rfl,b,x4,rfl,b0,_⟩
    refine⟨.int xs[i],by simp[srcOf,ed h' Gr.refl,hi],?_⟩
    simp[Gz (show small64 48271=true by decide),wc (show small64 11=true by decide),A9 (show(0:Int) < 2147483647 by decide)]
    exact⟨Int.emod_nonneg _ (by decide),Int.emod_lt_of_pos _ (by decide)⟩
  . rintro su h' ⟨rfl,b,x4,rfl,b0,b1⟩
    have hx:0 < xs.length:=by
      have:=congrArg List.length ex;simp at this;omega
    have b1:=b1 hx;refine⟨by simp[srcOf,ed h' Gr.refl],?_⟩
    have hp:DZ (.int 10) (.int 18) h'=some (.int 1000000000000000000,h'):=rfl;have fin:∀ a:Int,0<=a->h1.length<=h'.length/\Sp h'.length (h'++[.lst [.int a,.int b,.int 0]])/\Gr h1 (h'++[.lst [.int a,.int b,.int 0]]):=fun a ha=>⟨g2.le,⟨a,b,0,by simp,ha,b0,b1,by decide⟩,g2.app _⟩
    simp[hp];split
    . exact fin (-c) (by omega)
    . split
      . exact fin c (by omega)
      . exact fin 0 (by decide)
theorem _root_.UL.Fr.gr0 {p:Nat} {h0 h h':Hm} (g:Gr h0 h) (f:Fr p h h') (hp:h0.length<=p):Gr h0 h':=⟨Nat.le_trans g.le f.le,fun i hi=>(f.keep i (Nat.lt_of_lt_of_le hi g.le) (by omega)).trans (g.keep i hi)⟩

theorem oN {p:Nat} {h:Hm} (s:Sp p h):cN (dU [.ref p] h) fun u h'=>u=.bl true/\Fr p h h':=PQ.FP LP.rR s fun g x=>LP.oN (r:=[]) x

theorem oa {i j:Int} {h:Hm}:UL.yP [.int i,.int j] h=some (.int (if j > i then j else i),h):=rfl
theorem oe {i j:Int} {h:Hm}:UL.yQ [.int i,.int j] h=some (.int (if j < i then j else i),h):=rfl
theorem AV (ns:List Int) (hl:ns.length<=63) (hb:∀ z∈ns,Builtin.Int.intBits z<=1048576):∃ h',pW [.ref 0] [.fro (ns.map .int)]=.ok (.bl true) h':=by
  suffices H:cN (pW [.ref 0] [.fro (ns.map .int)]) fun u _=>u=.bl true by
    obtain⟨u,h',e,rfl⟩:=xM.mp H;exact⟨h',e⟩
  unfold pW;simp[nW (h:=[O.fro (ns.map U.int)]) (m:=0) rfl,oe,oa];have at0:∀ h',Gr [O.fro (ns.map U.int)] h'->h'[0]?=some (.fro (ns.map U.int)):=fun h' g=>g.at rfl
  refine(z9 (fun u=>u=.bl true) ?_).mono ?_
  . simp[nW (h:=[O.fro (ns.map U.int)]) (m:=0) rfl,oe,oa]
    generalize hN:(if (2:Int) < (if (5:Int) < (ns.length:Int) then(5:Int) else(ns.length:Int)) then(if (5:Int) < (ns.length:Int) then(5:Int) else(ns.length:Int)) else(2:Int))=N
    have hN1:0<=N/\N<=63:=by
      subst hN;split<;>(try split)<;>omega
    refine⟨by omega,Gr.refl,N.toNat,by omega,fun i h' hi g=>⟨.int i,by simp[eF];omega,?_⟩,fun h' g=>by simp[eF]⟩
    simp[iw];refine(zC (at0 h' g) (by omega) (by omega)).mono ?_
    rintro u h2 ⟨p,rfl,hp,sp,g2⟩;refine(oN sp).mono ?_;rintro u h3 ⟨rfl,f3⟩;exact⟨rfl,Fr.gr0 g2 f3 hp⟩
  . rintro u h2 ⟨ys,m,rfl,hm,em,ya,g⟩
    have ey:ys=(ys.map fun _=>true).map U.bl:=by
      rw[List.map_map];refine(List.ext_getElem (by simp) fun i h1 h2=>?_)
      rw[ya _ (List.getElem_mem h1)];simp
    rw[ey] at em;refine BF (zZ em) ?_
    congr 1
    simp

structure Fx (P:Program) (w:World) (K:PySem.W.Frag) (mg:Str->Option Value) (base:Heap):Prop where
  n_all:mg "all" = none
  n_max:mg "max" = none
  n_min:mg "min" = none
  n_len:mg "len" = none
  n_range:mg "range" = none
  n_tuple:mg "tuple" = none
  n_int:mg "int" = none
  n_divmod:mg "divmod" = none
  d__law_draw:∃ fd,FunD K "_law_draw" "_law_draw" (defArgs (top 38)) (defBody (top 38)) (defScope (top 38)) [] [] (He.ga K "_law_draw") fd
  c__law_draw:mg "_law_draw" = some (.ref (He.ga K "_law_draw"))
  d__law_of:∃ fd,FunD K "_law_of" "_law_of" (defArgs (top 39)) (defBody (top 39)) (defScope (top 39)) [] [] (He.ga K "_law_of") fd
  c__law_of:mg "_law_of" = some (.ref (He.ga K "_law_of"))
  d__law_signs:∃ fd,FunD K "_law_signs" "_law_signs" (defArgs (top 46)) (defBody (top 46)) (defScope (top 46)) [] [] (He.ga K "_law_signs") fd
  c__law_signs:mg "_law_signs" = some (.ref (He.ga K "_law_signs"))
  d__law_pieces:∃ fd,FunD K "_law_pieces" "_law_pieces" (defArgs (top 47)) (defBody (top 47)) (defScope (top 47)) [] [] (He.ga K "_law_pieces") fd
  c__law_pieces:mg "_law_pieces" = some (.ref (He.ga K "_law_pieces"))
  n_str:mg "str" = none
  d__law_goal:∃ fd,FunD K "_law_goal" "_law_goal" (defArgs (top 40)) (defBody (top 40)) (defScope (top 40)) [] [] (He.ga K "_law_goal") fd
  c__law_goal:mg "_law_goal" = some (.ref (He.ga K "_law_goal"))
  d__law_row:∃ fd,FunD K "_law_row" "_law_row" (defArgs (top 41)) (defBody (top 41)) (defScope (top 41)) [] [] (He.ga K "_law_row") fd
  c__law_row:mg "_law_row" = some (.ref (He.ga K "_law_row"))
  d__law_free_part:∃ fd,FunD K "_law_free_part" "_law_free_part" (defArgs (top 42)) (defBody (top 42)) (defScope (top 42)) [] [] (He.ga K "_law_free_part") fd
  c__law_free_part:mg "_law_free_part" = some (.ref (He.ga K "_law_free_part"))
  d__law_base:∃ fd,FunD K "_law_base" "_law_base" (defArgs (top 43)) (defBody (top 43)) (defScope (top 43)) [] [] (He.ga K "_law_base") fd
  c__law_base:mg "_law_base" = some (.ref (He.ga K "_law_base"))
  d__law_parts:∃ fd,FunD K "_law_parts" "_law_parts" (defArgs (top 44)) (defBody (top 44)) (defScope (top 44)) [] [] (He.ga K "_law_parts") fd
  c__law_parts:mg "_law_parts" = some (.ref (He.ga K "_law_parts"))
  n_isinstance:mg "isinstance" = none
  c_Reader:mg "Reader" = some (.ref (He.ga K "Reader"))
  is_Reader:Dg K "Reader" = true
  io_Reader:F8 K ["Reader"]=true
  tb_LEAST:∃ es n,KDict K w (He.ga K "LEAST") es n
  tv_LEAST:He.valsB K (He.ga K "LEAST") [("each",He.Dv.int (1)),("piece",He.Dv.int (0)),("last",He.Dv.int (0))]=true
  c_LEAST:mg "LEAST" = some (.ref (He.ga K "LEAST"))
  tb_MOST:∃ es n,KDict K w (He.ga K "MOST") es n
  tv_MOST:He.valsB K (He.ga K "MOST") [("each",He.Dv.int (10)),("piece",He.Dv.int (5)),("last",He.Dv.int (5))]=true
  c_MOST:mg "MOST" = some (.ref (He.ga K "MOST"))
  n_enumerate:mg "enumerate" = none
  c_EACH:∃ t,mg "EACH" = some (.str "each" t)
  d_step_in:∃ fd,FunD K "step_in" "step_in" (defArgs (top 23)) (defBody (top 23)) (defScope (top 23)) [] [] (He.ga K "step_in") fd
  c_step_in:mg "step_in" = some (.ref (He.ga K "step_in"))
  d_wrong_row:∃ fd,FunD K "wrong_row" "wrong_row" (defArgs (top 24)) (defBody (top 24)) (defScope (top 24)) [] [] (He.ga K "wrong_row") fd
  c_wrong_row:mg "wrong_row" = some (.ref (He.ga K "wrong_row"))
  c_InvalidEach:mg "InvalidEach" = some (.ref (He.ga K "InvalidEach"))
  n_super:mg "super" = none
  ex_InvalidEach:CL P K mg (He.ga K "InvalidEach") "index"
  c_PIECE:∃ t,mg "PIECE" = some (.str "piece" t)
  c_InvalidPiece:mg "InvalidPiece" = some (.ref (He.ga K "InvalidPiece"))
  ex_InvalidPiece:CL P K mg (He.ga K "InvalidPiece") "index"
  c_LAST:∃ t,mg "LAST" = some (.str "last" t)
  c_InvalidLast:mg "InvalidLast" = some (.ref (He.ga K "InvalidLast"))
  ex_InvalidLast:CL P K mg (He.ga K "InvalidLast") "index"
  cl_Reader:Cls K (He.ga K "Reader")
  na_Reader_parts:NoAttr K (He.ga K "Reader") "parts"
  d_steps_of:∃ fd,FunD K "steps_of" "steps_of" (defArgs (top 25)) (defBody (top 25)) (defScope (top 25)) [] [] (He.ga K "steps_of") fd
  c_steps_of:mg "steps_of" = some (.ref (He.ga K "steps_of"))
  na_Reader_steps:NoAttr K (He.ga K "Reader") "steps"
  na_Reader_whole:NoAttr K (He.ga K "Reader") "whole"
  na_Reader_shown:NoAttr K (He.ga K "Reader") "shown"
  d_Reader_init:∃ fd,FunD K "__init__" "Reader.__init__" (defArgs (inClass (top 27) 0)) (defBody (inClass (top 27) 0)) (defScope (inClass (top 27) 0)) (([.adr (He.dflAt ("Reader",some "__init__") 0),.adr (He.dflAt ("Reader",some "__init__") 1)]:List He.Dv).map (He.Dv.v K)) [] (He.ma K (He.ga K "Reader") "__init__") fd
  mk_Reader:Mk K (He.ga K "Reader") (He.ma K (He.ga K "Reader") "__init__")
  kp_Reader:PySem.W.keepIn K (.ref (He.ga K "Reader"))=true
  d__law_made:∃ fd,FunD K "_law_made" "_law_made" (defArgs (top 45)) (defBody (top 45)) (defScope (top 45)) [] [] (He.ga K "_law_made") fd
  c__law_made:mg "_law_made" = some (.ref (He.ga K "_law_made"))
  c_NotAReader:mg "NotAReader" = some (.ref (He.ga K "NotAReader"))
  ex_NotAReader:CL P K mg (He.ga K "NotAReader") "given"
  d_check_reader:∃ fd,FunD K "check_reader" "check_reader" (defArgs (top 28)) (defBody (top 28)) (defScope (top 28)) [] [] (He.ga K "check_reader") fd
  c_check_reader:mg "check_reader" = some (.ref (He.ga K "check_reader"))
  c_InvalidPieces:mg "InvalidPieces" = some (.ref (He.ga K "InvalidPieces"))
  ex_InvalidPieces:CL P K mg (He.ga K "InvalidPieces") "index"
  c_LETTERS:∃ t,mg "LETTERS" = some (.str "abcdefghijklmnopqrstuvwxyz" t)
  c_MARK:∃ t,mg "MARK" = some (.str "," t)
  c_END:∃ t,mg "END" = some (.str ";" t)
  d_is_signs:∃ fd,FunD K "is_signs" "is_signs" (defArgs (top 22)) (defBody (top 22)) (defScope (top 22)) [] [] (He.ga K "is_signs") fd
  c_is_signs:mg "is_signs" = some (.ref (He.ga K "is_signs"))
  d_check_pieces:∃ fd,FunD K "check_pieces" "check_pieces" (defArgs (top 29)) (defBody (top 29)) (defScope (top 29)) [] [] (He.ga K "check_pieces") fd
  c_check_pieces:mg "check_pieces" = some (.ref (He.ga K "check_pieces"))
  d_holds:∃ fd,FunD K "holds" "holds" (defArgs (top 31)) (defBody (top 31)) (defScope (top 31)) [] [] (He.ga K "holds") fd
  c_holds:mg "holds" = some (.ref (He.ga K "holds"))
  d_bare:∃ fd,FunD K "bare" "bare" (defArgs (top 32)) (defBody (top 32)) (defScope (top 32)) [] [] (He.ga K "bare") fd
  c_bare:mg "bare" = some (.ref (He.ga K "bare"))
  d_done:∃ fd,FunD K "done" "done" (defArgs (top 33)) (defBody (top 33)) (defScope (top 33)) [] [] (He.ga K "done") fd
  c_done:mg "done" = some (.ref (He.ga K "done"))
  d_lines_of:∃ fd,FunD K "lines_of" "lines_of" (defArgs (top 34)) (defBody (top 34)) (defScope (top 34)) [] [] (He.ga K "lines_of") fd
  c_lines_of:mg "lines_of" = some (.ref (He.ga K "lines_of"))
  d_lines:∃ fd,FunD K "lines" "lines" (defArgs (top 35)) (defBody (top 35)) (defScope (top 35)) [] [] (He.ga K "lines") fd
  c_lines:mg "lines" = some (.ref (He.ga K "lines"))
  d__law_exchanged:∃ fd,FunD K "_law_exchanged" "_law_exchanged" (defArgs (top 48)) (defBody (top 48)) (defScope (top 48)) [] [] (He.ga K "_law_exchanged") fd
  c__law_exchanged:mg "_law_exchanged" = some (.ref (He.ga K "_law_exchanged"))
  n_repr:mg "repr" = none
  n_any:mg "any" = none
  d__law_right:∃ fd,FunD K "_law_right" "_law_right" (defArgs (top 49)) (defBody (top 49)) (defScope (top 49)) [] [] (He.ga K "_law_right") fd
  c__law_right:mg "_law_right" = some (.ref (He.ga K "_law_right"))
  n_abs:mg "abs" = none
  d__law_spring:∃ fd,FunD K "_law_spring" "_law_spring" (defArgs (top 37)) (defBody (top 37)) (defScope (top 37)) [] [] (He.ga K "_law_spring") fd
  c__law_spring:mg "_law_spring" = some (.ref (He.ga K "_law_spring"))
  d_law:∃ fd,FunD K "law" "law" (defArgs (top 50)) (defBody (top 50)) (defScope (top 50)) [] [] (He.ga K "law") fd
  c_law:mg "law" = some (.ref (He.ga K "law"))
theorem sX:FnScope ["_law_spring_here", "_law_size", "_law_far", "_law_mixed", "_law_digit"] ["_law_spring_here", "_law_size"] (defScope (top 38)):=⟨rfl,rfl,rfl,by decide +kernel,rfl,by decide +kernel,by decide +kernel⟩
variable {P:Program} {w:World} {K:PySem.W.Frag} {mg:Str->Option Value}
theorem vw {base:Heap} (x:Fx P w K mg base):∃ fd,FunD K "_law_draw" "_law_draw" (defArgs (top 38)) (defBody (top 38)) (defScope (top 38)) [] [] (He.ga K "_law_draw") fd/\dw P w K mg base 1 (He.ga K "_law_draw") fd ["_law_spring_here", "_law_size"] 2 bC:=by
  refine cf x x.d__law_draw sX rfl rfl fun X5 I5 T5=>?_
  obtain⟨⟨v5_0,v5_1,v5_4,v5_2,v5_3,_⟩,⟨s5_4,s5_2,s5_3,_⟩,⟨g5_0,g5_1,_⟩⟩:=(I5).all [(0, "_law_spring_here"),(1, "_law_size"),(4, "_law_digit"),(2, "_law_far"),(3, "_law_mixed")] [(4, "_law_digit"),(2, "_law_far"),(3, "_law_mixed")] ["int", "divmod"] (by decide +kernel)
  exact aB (mi I5 (bt bG (bq (I5).g (aq v5_0) (az)) (az)) (sH (I5).g (aq v5_0) (az)))
      (aB (mi I5 (bt oZ (bJ kP g5_0.gl (I5).f.n_int (by kernel_rfl) (af (bt bG (bt bG (bt kU (bq (I5).g (aq v5_0) (az)) (az)) (bt kU (az) (bq (I5).g (aq v5_0) (az)))) (az)) (aj))) (az)) (sH (I5).g (aq v5_0) (az)))
      (aB (bL (aZ (Fi) (bq (I5).g (aq v5_0) (az)) (az) rfl)
      (aB (mi I5 (bc zp g5_1.gl (I5).f.n_divmod (by kernel_rfl) (af (bq (I5).g (aq v5_0) (az)) (af (aq v5_1) (aj)))) (iB (I5).g.calm (bz (sH (I5).g (aq v5_0) (az)) (bz (c4 s5_4 (I5).g) (fW) (dP)) (d5 (cV 4) (dP)))))
      (aI (aX (aq v5_4))))
      (bh))
      (aB (eG s5_2 (I5).g (bt bG (bq (I5).g (aq v5_0) (az)) (az)))
      (aB (eG s5_3 (I5).g (bt oZ (bJ kP g5_0.gl (I5).f.n_int (by kernel_rfl) (af (bt bG (bt kU (aq v5_2) (bq (I5).g (aq v5_0) (az))) (bq (I5).g (aq v5_0) (az))) (aj))) (az)))
      (aI (aX (bt oZ (bJ kP g5_0.gl (I5).f.n_int (by kernel_rfl) (af (bt Eu (aq v5_3) (az)) (aj))) (aq v5_1))))))))
theorem cy {P:Program} {w:World} {K:PySem.W.Frag} {mg:Str->Option Value} {base:Heap} (x:Fx P w K mg base):dA P w K mg base 1 (He.ga K "_law_draw") 2 bC:=by
  obtain⟨fd,Fd,D⟩:=vw x;exact D.u (FunD.bindsN Fd fun _ _ _ _ _ _ us hl=>match us,hl with | [_,_],_=>rfl)
theorem yp:FnScope ["_law_spring_here", "_law_menu"] ["_law_spring_here", "_law_menu"] (defScope (top 39)):=⟨rfl,rfl,rfl,by decide +kernel,rfl,by decide +kernel,by decide +kernel⟩
theorem zK {base:Heap} (x:Fx P w K mg base):∃ fd,FunD K "_law_of" "_law_of" (defArgs (top 39)) (defBody (top 39)) (defScope (top 39)) [] [] (He.ga K "_law_of") fd/\dw P w K mg base 2 (He.ga K "_law_of") fd ["_law_spring_here", "_law_menu"] 2 bN:=by
  refine cf x x.d__law_of yp rfl rfl fun X8 I8 T8=>?_
  obtain⟨⟨v8_1,v8_0,_⟩,_,⟨g8_0,g8_1,_⟩⟩:=(I8).all [(1, "_law_menu"),(0, "_law_spring_here")] [] ["len", "_law_draw"] (by decide +kernel)
  exact aI (aX (bq (I8).g (aq v8_1) (aJ (I8).g (cy (I8).f) (by decide) g8_1.gl (I8).f.c__law_draw (af (aq v8_0) (af (bc fC g8_0.gl (I8).f.n_len (by kernel_rfl) (af (aq v8_1) (aj))) (aj))))))
theorem cM {P:Program} {w:World} {K:PySem.W.Frag} {mg:Str->Option Value} {base:Heap} (x:Fx P w K mg base):dA P w K mg base 2 (He.ga K "_law_of") 2 bN:=by
  obtain⟨fd,Fd,D⟩:=zK x;exact D.u (FunD.bindsN Fd fun _ _ _ _ _ _ us hl=>match us,hl with | [_,_],_=>rfl)
theorem rm:FnScope ["_law_spring_here", "_law_most", "_law_menu", "_law_k"] ["_law_spring_here", "_law_most"] (defScope (top 46)):=⟨rfl,rfl,rfl,by decide +kernel,rfl,by decide +kernel,by decide +kernel⟩
theorem sR {base:Heap} (x:Fx P w K mg base):∃ fd,FunD K "_law_signs" "_law_signs" (defArgs (top 46)) (defBody (top 46)) (defScope (top 46)) [] [] (He.ga K "_law_signs") fd/\dw P w K mg base 3 (He.ga K "_law_signs") fd ["_law_spring_here", "_law_most"] 2 e7:=by
  refine cf x x.d__law_signs rm rfl rfl fun X7 I7 T7=>?_
  obtain⟨⟨v7_0,v7_1,_⟩,⟨s7_2,_⟩,⟨g7_0,g7_1,g7_2,_⟩⟩:=(I7).all [(0, "_law_spring_here"),(1, "_law_most")] [(2, "_law_menu")] ["_law_of", "_law_draw", "range"] (by decide +kernel)
  exact aB (eG s7_2 (I7).g (aJ (I7).g (cM (I7).f) (by decide) g7_0.gl (I7).f.c__law_of (af (aq v7_0) (af (aR (af (av) (af (av) (af (av) (af (av) (af (av) (af (av) (aj)))))))) (aj)))))
      (aI (aX (fP (T:=.str) j9 (av) (af (jN I7 [("_law_k",3)] (gL g7_2.gl (I7).f.n_range (af (aJ (I7).g (cy (I7).f) (by decide) g7_1.gl (I7).f.c__law_draw (af (aq v7_0) (af (bt bG (aq v7_1) (az)) (aj)))) (aj))) (fun Y9 I9=>by
        obtain⟨⟨v9_2,v9_0,_⟩,⟨s9_3,_⟩,⟨g9_0,_⟩⟩:=(I9).all [(2, "_law_menu"),(0, "_law_spring_here")] [(3, "_law_k")] ["_law_of"] (by decide +kernel)
        exact⟨c4 s9_3 (I9).g,d3,aJ (I9).g (cM (I9).f) (by decide) g9_0.gl (I9).f.c__law_of (af (aq v9_0) (af (aq v9_2) (aj)))⟩)) (aj)) PySem.F.plainAttrs_str PySem.F.slot_str_join PySem.F.type_str_join)))
theorem sN {P:Program} {w:World} {K:PySem.W.Frag} {mg:Str->Option Value} {base:Heap} (x:Fx P w K mg base):dA P w K mg base 3 (He.ga K "_law_signs") 2 e7:=by
  obtain⟨fd,Fd,D⟩:=sR x;exact D.u (FunD.bindsN Fd fun _ _ _ _ _ _ us hl=>match us,hl with | [_,_],_=>rfl)
theorem pI:FnScope ["_law_spring_here", "_law_k"] ["_law_spring_here"] (defScope (top 47)):=⟨rfl,rfl,rfl,by decide +kernel,rfl,by decide +kernel,by decide +kernel⟩
theorem pU {base:Heap} (x:Fx P w K mg base):∃ fd,FunD K "_law_pieces" "_law_pieces" (defArgs (top 47)) (defBody (top 47)) (defScope (top 47)) [] [] (He.ga K "_law_pieces") fd/\dw P w K mg base 4 (He.ga K "_law_pieces") fd ["_law_spring_here"] 1 d8:=by
  refine cf x x.d__law_pieces pI rfl rfl fun X4 I4 T4=>?_
  obtain⟨⟨v4_0,_⟩,_,⟨g4_0,g4_1,g4_2,_⟩⟩:=(I4).all [(0, "_law_spring_here")] [] ["_law_draw", "range", "tuple"] (by decide +kernel)
  exact aI (aX (bJ eE g4_2.gl (I4).f.n_tuple (by kernel_rfl) (af (jN I4 [("_law_k",1)] (gL g4_1.gl (I4).f.n_range (af (aJ (I4).g (cy (I4).f) (by decide) g4_0.gl (I4).f.c__law_draw (af (aq v4_0) (af (az) (aj)))) (aj))) (fun Y6 I6=>by
        obtain⟨⟨v6_0,_⟩,⟨s6_1,_⟩,⟨g6_0,g6_1,_⟩⟩:=(I6).all [(0, "_law_spring_here")] [(1, "_law_k")] ["_law_of", "_law_signs"] (by decide +kernel)
        exact⟨c4 s6_1 (I6).g,d3,aJ (I6).g (sN (I6).f) (by decide) g6_1.gl (I6).f.c__law_signs (af (aq v6_0) (af (aJ (I6).g (cM (I6).f) (by decide) g6_0.gl (I6).f.c__law_of (af (aq v6_0) (af (aR (af (az) (af (az) (af (az) (aj))))) (aj)))) (aj)))⟩)) (aj))))
theorem pR {P:Program} {w:World} {K:PySem.W.Frag} {mg:Str->Option Value} {base:Heap} (x:Fx P w K mg base):dA P w K mg base 4 (He.ga K "_law_pieces") 1 d8:=by
  obtain⟨fd,Fd,D⟩:=pU x;exact D.u (FunD.bindsN Fd fun _ _ _ _ _ _ us hl=>match us,hl with | [_],_=>rfl)
theorem sY:FnScope ["_law_spring_here", "_law_at", "_law_many"] ["_law_spring_here", "_law_at", "_law_many"] (defScope (top 40)):=⟨rfl,rfl,rfl,by decide +kernel,rfl,by decide +kernel,by decide +kernel⟩
theorem vy {base:Heap} (x:Fx P w K mg base):∃ fd,FunD K "_law_goal" "_law_goal" (defArgs (top 40)) (defBody (top 40)) (defScope (top 40)) [] [] (He.ga K "_law_goal") fd/\dw P w K mg base 2 (He.ga K "_law_goal") fd ["_law_spring_here", "_law_at", "_law_many"] 3 fY:=by
  refine cf x x.d__law_goal sY rfl rfl fun X14 I14 T14=>?_
  obtain⟨⟨v14_1,v14_2,v14_0,_⟩,_,⟨g14_0,g14_1,_⟩⟩:=(I14).all [(1, "_law_at"),(2, "_law_many"),(0, "_law_spring_here")] [] ["_law_draw", "str"] (by decide +kernel)
  exact aI (aX (bJ B6 g14_1.gl (I14).f.n_str (by kernel_rfl) (af (bt bG (bt bG (aq v14_1) (az)) (aJ (I14).g (cy (I14).f) (by decide) g14_0.gl (I14).f.c__law_draw (af (aq v14_0) (af (bt Cq (aq v14_2) (aq v14_1)) (aj))))) (aj))))
theorem vp {P:Program} {w:World} {K:PySem.W.Frag} {mg:Str->Option Value} {base:Heap} (x:Fx P w K mg base):dA P w K mg base 2 (He.ga K "_law_goal") 3 fY:=by
  obtain⟨fd,Fd,D⟩:=vy x;exact D.u (FunD.bindsN Fd fun _ _ _ _ _ _ us hl=>match us,hl with | [_,_,_],_=>rfl)
theorem vI:FnScope ["_law_spring_here", "_law_at", "_law_part_here", "_law_many", "_law_way", "_law_word"] ["_law_spring_here", "_law_at", "_law_part_here", "_law_many"] (defScope (top 41)):=⟨rfl,rfl,rfl,by decide +kernel,rfl,by decide +kernel,by decide +kernel⟩
theorem wO {base:Heap} (x:Fx P w K mg base):∃ fd,FunD K "_law_row" "_law_row" (defArgs (top 41)) (defBody (top 41)) (defScope (top 41)) [] [] (He.ga K "_law_row") fd/\dw P w K mg base 3 (He.ga K "_law_row") fd ["_law_spring_here", "_law_at", "_law_part_here", "_law_many"] 4 fH:=by
  refine cf x x.d__law_row vI rfl rfl fun X13 I13 T13=>?_
  obtain⟨⟨v13_0,v13_4,v13_2,v13_5,v13_3,v13_1,_⟩,⟨s13_4,s13_5,_⟩,⟨g13_0,g13_1,g13_2,_⟩⟩:=(I13).all [(0, "_law_spring_here"),(4, "_law_way"),(2, "_law_part_here"),(5, "_law_word"),(3, "_law_many"),(1, "_law_at")] [(4, "_law_way"),(5, "_law_word")] ["_law_draw", "_law_of", "_law_goal"] (by decide +kernel)
  exact aB (eG s13_4 (I13).g (aJ (I13).g (cy (I13).f) (by decide) g13_0.gl (I13).f.c__law_draw (af (aq v13_0) (af (az) (aj)))))
      (aB (bL (aZ (qQ) (aq v13_4) (az) rfl)
      (aB (eG s13_5 (I13).g (aJ (I13).g (cM (I13).f) (by decide) g13_1.gl (I13).f.c__law_of (af (aq v13_0) (af (aR (af (av) (af (av) (af (av) (aj))))) (aj)))))
      (aB (bL (lM (o5 (aZ (cS (I13).g.hu) (aq v13_2) (av) rfl) (mY (aZ (qQ) (aq v13_4) (az) rfl))))
      (aI (eG s13_5 (I13).g (aJ (I13).g (cM (I13).f) (by decide) g13_1.gl (I13).f.c__law_of (af (aq v13_0) (af (aR (af (av) (af (av) (aj)))) (aj))))))
      (bh))
      (aI (aX (bt bG (aq v13_5) (aJ (I13).g (vp (I13).f) (by decide) g13_2.gl (I13).f.c__law_goal (af (aq v13_0) (af (aq v13_1) (af (aq v13_3) (aj))))))))))
      (bh))
      (aB (bL (aZ (qQ) (aq v13_4) (az) rfl)
      (aI (aX (aJ (I13).g (cM (I13).f) (by decide) g13_1.gl (I13).f.c__law_of (af (aq v13_0) (af (aR (af (av) (af (av) (af (av) (af (av) (aj)))))) (aj))))))
      (bh))
      (aB (bL (aZ (cS (I13).g.hu) (aq v13_4) (az) rfl)
      (aI (aX (aJ (I13).g (cM (I13).f) (by decide) g13_1.gl (I13).f.c__law_of (af (aq v13_0) (af (aR (af (av) (af (av) (aj)))) (aj))))))
      (bh))
      (aI (aX (my (aZ (cS (I13).g.hu) (aq v13_2) (av) rfl) (av) (aJ (I13).g (cM (I13).f) (by decide) g13_1.gl (I13).f.c__law_of (af (aq v13_0) (af (aR (af (av) (af (av) (af (av) (af (av) (af (av) (aj))))))) (aj))))))))))
theorem o9 {P:Program} {w:World} {K:PySem.W.Frag} {mg:Str->Option Value} {base:Heap} (x:Fx P w K mg base):dA P w K mg base 3 (He.ga K "_law_row") 4 fH:=by
  obtain⟨fd,Fd,D⟩:=wO x;exact D.u (FunD.bindsN Fd fun _ _ _ _ _ _ us hl=>match us,hl with | [_,_,_,_],_=>rfl)
theorem lR:FnScope ["_law_spring_here", "_law_part_here", "_law_least", "_law_most", "_law_many", "_law_at"] ["_law_spring_here", "_law_part_here", "_law_least", "_law_most"] (defScope (top 42)):=⟨rfl,rfl,rfl,by decide +kernel,rfl,by decide +kernel,by decide +kernel⟩
theorem mn {base:Heap} (x:Fx P w K mg base):∃ fd,FunD K "_law_free_part" "_law_free_part" (defArgs (top 42)) (defBody (top 42)) (defScope (top 42)) [] [] (He.ga K "_law_free_part") fd/\dw P w K mg base 4 (He.ga K "_law_free_part") fd ["_law_spring_here", "_law_part_here", "_law_least", "_law_most"] 4 bS:=by
  refine cf x x.d__law_free_part lR rfl rfl fun X11 I11 T11=>?_
  obtain⟨⟨v11_2,v11_3,v11_0,v11_4,_⟩,⟨s11_4,_⟩,⟨g11_0,g11_1,_⟩⟩:=(I11).all [(2, "_law_least"),(3, "_law_most"),(0, "_law_spring_here"),(4, "_law_many")] [(4, "_law_many")] ["_law_draw", "range"] (by decide +kernel)
  exact aB (eG s11_4 (I11).g (bt bG (aq v11_2) (aJ (I11).g (cy (I11).f) (by decide) g11_0.gl (I11).f.c__law_draw (af (aq v11_0) (af (bt Cq (bt bG (aq v11_3) (az)) (aq v11_2)) (aj))))))
      (aI (aX (jN I11 [("_law_at",5)] (gL g11_1.gl (I11).f.n_range (af (aq v11_4) (aj))) (fun Y12 I12=>by
        obtain⟨⟨v12_4,v12_1,v12_5,v12_0,_⟩,⟨s12_5,_⟩,⟨g12_0,_⟩⟩:=(I12).all [(4, "_law_many"),(1, "_law_part_here"),(5, "_law_at"),(0, "_law_spring_here")] [(5, "_law_at")] ["_law_row"] (by decide +kernel)
        exact⟨c4 s12_5 (I12).g,d3,aJ (I12).g (o9 (I12).f) (by decide) g12_0.gl (I12).f.c__law_row (af (aq v12_0) (af (aq v12_5) (af (aq v12_1) (af (aq v12_4) (aj)))))⟩))))
theorem fT {P:Program} {w:World} {K:PySem.W.Frag} {mg:Str->Option Value} {base:Heap} (x:Fx P w K mg base):dA P w K mg base 4 (He.ga K "_law_free_part") 4 bS:=by
  obtain⟨fd,Fd,D⟩:=mn x;exact D.u (FunD.bindsN Fd fun _ _ _ _ _ _ us hl=>match us,hl with | [_,_,_,_],_=>rfl)
theorem sW:FnScope ["_law_spring_here", "_law_way", "_law_word", "_law_plain_here", "_law_last_here"] ["_law_spring_here"] (defScope (top 43)):=⟨rfl,rfl,rfl,by decide +kernel,rfl,by decide +kernel,by decide +kernel⟩
theorem vv {base:Heap} (x:Fx P w K mg base):∃ fd,FunD K "_law_base" "_law_base" (defArgs (top 43)) (defBody (top 43)) (defScope (top 43)) [] [] (He.ga K "_law_base") fd/\dw P w K mg base 3 (He.ga K "_law_base") fd ["_law_spring_here"] 1 fX:=by
  refine cf x x.d__law_base sW rfl rfl fun X15 I15 T15=>?_
  obtain⟨⟨v15_0,v15_2,v15_1,v15_4,v15_3,_⟩,⟨s15_1,s15_2,s15_3,s15_4,_⟩,⟨g15_0,g15_1,_⟩⟩:=(I15).all [(0, "_law_spring_here"),(2, "_law_word"),(1, "_law_way"),(4, "_law_last_here"),(3, "_law_plain_here")] [(1, "_law_way"),(2, "_law_word"),(3, "_law_plain_here"),(4, "_law_last_here")] ["_law_of", "_law_draw"] (by decide +kernel)
  exact aB (vc I15 s15_1 s15_2 (af (aJ (I15).g (cy (I15).f) (by decide) g15_1.gl (I15).f.c__law_draw (af (aq v15_0) (af (az) (aj)))) (af (aJ (I15).g (cM (I15).f) (by decide) g15_0.gl (I15).f.c__law_of (af (aq v15_0) (af (aR (af (av) (af (av) (af (av) (aj))))) (aj)))) (aj))))
      (aB (vc I15 s15_3 s15_4 (af (aR (af (av) (af (av) (af (av) (af (aq v15_2) (aj)))))) (af (aR (af (av) (af (aq v15_2) (aj)))) (aj))))
      (aB (bL (aZ (cS (I15).g.hu) (aq v15_1) (az) rfl)
      (aI (aX (aR (af (aq v15_3) (af (aR (aj)) (af (aq v15_4) (aj)))))))
      (bh))
      (aB (bL (aZ (cS (I15).g.hu) (aq v15_1) (az) rfl)
      (aI (aX (aR (af (aq v15_3) (af (aq v15_4) (af (aR (aj)) (aj)))))))
      (bh))
      (aB (bL (aZ (cS (I15).g.hu) (aq v15_1) (az) rfl)
      (aI (aX (aR (af (aq v15_3) (af (aR (aj)) (af (aR (af (aq v15_2) (aj))) (aj)))))))
      (bh))
      (aB (bL (aZ (cS (I15).g.hu) (aq v15_1) (az) rfl)
      (aI (aX (aR (af (aq v15_3) (af (aR (af (av) (aj))) (af (aR (aj)) (aj)))))))
      (bh))
      (aB (bL (aZ (cS (I15).g.hu) (aq v15_1) (az) rfl)
      (aI (aX (aR (af (aR (af (av) (af (av) (af (av) (af (av) (af (aq v15_2) (aj))))))) (af (aR (aj)) (af (aq v15_4) (aj)))))))
      (bh))
      (aB (bL (aZ (cS (I15).g.hu) (aq v15_1) (az) rfl)
      (aI (aX (aR (af (aR (af (av) (af (av) (af (av) (af (av) (af (av) (af (av) (af (aq v15_2) (aj))))))))) (af (aR (aj)) (af (aq v15_4) (aj)))))))
      (bh))
      (aB (bL (aZ (cS (I15).g.hu) (aq v15_1) (az) rfl)
      (aI (aX (aR (af (aR (af (av) (af (av) (af (av) (af (av) (af (aq v15_2) (af (av) (aj)))))))) (af (aR (aj)) (af (aR (af (av) (af (av) (af (aq v15_2) (aj))))) (aj)))))))
      (bh))
      (aB (bL (aZ (cS (I15).g.hu) (aq v15_1) (az) rfl)
      (aI (aX (aR (af (aR (af (av) (af (av) (af (av) (af (aq v15_2) (af (av) (aj))))))) (af (aR (af (av) (af (av) (af (av) (aj))))) (af (aq v15_4) (aj)))))))
      (bh))
      (aI (aX (aR (af (aR (af (av) (af (av) (aj)))) (af (aR (af (av) (af (aq v15_2) (af (av) (aj))))) (af (aR (af (aJ (I15).g (cM (I15).f) (by decide) g15_0.gl (I15).f.c__law_of (af (aq v15_0) (af (aR (af (av) (af (aq v15_2) (aj)))) (aj)))) (aj))) (aj))))))))))))))))
theorem vo {P:Program} {w:World} {K:PySem.W.Frag} {mg:Str->Option Value} {base:Heap} (x:Fx P w K mg base):dA P w K mg base 3 (He.ga K "_law_base") 1 fX:=by
  obtain⟨fd,Fd,D⟩:=vv x;exact D.u (FunD.bindsN Fd fun _ _ _ _ _ _ us hl=>match us,hl with | [_],_=>rfl)
theorem rg:FnScope ["_law_spring_here", "_law_some", "_law_k", "_law_which", "_law_lines_here", "_law_at", "_law_fresh"] ["_law_spring_here"] (defScope (top 44)):=⟨rfl,rfl,rfl,by decide +kernel,rfl,by decide +kernel,by decide +kernel⟩
theorem sP {base:Heap} (x:Fx P w K mg base):∃ fd,FunD K "_law_parts" "_law_parts" (defArgs (top 44)) (defBody (top 44)) (defScope (top 44)) [] [] (He.ga K "_law_parts") fd/\dw P w K mg base 5 (He.ga K "_law_parts") fd ["_law_spring_here"] 1 eZ:=by
  refine cf x x.d__law_parts rg rfl rfl fun X10 I10 T10=>?_
  obtain⟨⟨v10_0,v10_1,v10_3,v10_4,v10_5,v10_6,_⟩,⟨s10_1,s10_2,s10_3,s10_4,s10_5,s10_6,_⟩,⟨g10_0,g10_1,g10_2,g10_3,g10_4,g10_5,g10_6,_⟩⟩:=(I10).all [(0, "_law_spring_here"),(1, "_law_some"),(3, "_law_which"),(4, "_law_lines_here"),(5, "_law_at"),(6, "_law_fresh")] [(1, "_law_some"),(2, "_law_k"),(3, "_law_which"),(4, "_law_lines_here"),(5, "_law_at"),(6, "_law_fresh")] ["_law_draw", "_law_free_part", "_law_base", "_law_of", "range", "len", "_law_row"] (by decide +kernel)
  exact aB (bL (aZ (cS (I10).g.hu) (aJ (I10).g (cy (I10).f) (by decide) g10_0.gl (I10).f.c__law_draw (af (aq v10_0) (af (az) (aj)))) (az) rfl)
      (aB (eG s10_1 (I10).g (aR (af (aJ (I10).g (fT (I10).f) (by decide) g10_1.gl (I10).f.c__law_free_part (af (aq v10_0) (af (av) (af (az) (af (az) (aj)))))) (af (aJ (I10).g (fT (I10).f) (by decide) g10_1.gl (I10).f.c__law_free_part (af (aq v10_0) (af (av) (af (az) (af (az) (aj)))))) (aj)))))
      (aI (aX (bt bG (aq v10_1) (aR (af (aJ (I10).g (fT (I10).f) (by decide) g10_1.gl (I10).f.c__law_free_part (af (aq v10_0) (af (av) (af (az) (af (az) (aj)))))) (aj)))))))
      (bh))
      (aB (eG s10_1 (I10).g (aJ (I10).g (vo (I10).f) (by decide) g10_2.gl (I10).f.c__law_base (af (aq v10_0) (aj))))
      (aB (kW (I10).g.pass (I10).g.calm (gL g10_4.gl (I10).f.n_range (af (aJ (I10).g (cM (I10).f) (by decide) g10_3.gl (I10).f.c__law_of (af (aq v10_0) (af (aR (af (az) (af (az) (af (az) (af (az) (aj)))))) (aj)))) (aj))) (c4 s10_2 (I10).g)
      (aB (eG s10_3 (I10).g (aJ (I10).g (cM (I10).f) (by decide) g10_3.gl (I10).f.c__law_of (af (aq v10_0) (af (aR (af (az) (af (az) (af (az) (af (az) (aj)))))) (aj)))))
      (aB (eG s10_4 (I10).g (bq (I10).g (aq v10_1) (aq v10_3)))
      (aI (bL (aZ (qR (I10).g.hu) (aq v10_4) (aR (aj)) rfl)
      (aB (eG s10_5 (I10).g (aJ (I10).g (cy (I10).f) (by decide) g10_0.gl (I10).f.c__law_draw (af (aq v10_0) (af (bc fC g10_5.gl (I10).f.n_len (by kernel_rfl) (af (aq v10_4) (aj))) (aj)))))
      (aB (eG s10_6 (I10).g (aJ (I10).g (o9 (I10).f) (by decide) g10_6.gl (I10).f.c__law_row (af (aq v10_0) (af (aq v10_5) (af (bq (I10).g (aR (af (av) (af (av) (af (av) (aj))))) (aq v10_3)) (af (bc fC g10_5.gl (I10).f.n_len (by kernel_rfl) (af (aq v10_4) (aj))) (aj)))))))
      (aB (eG s10_4 (I10).g (bt bG (bt bG (gh (aq v10_4) (mz) (ir (aq v10_5))) (aR (af (aq v10_6) (aj)))) (gh (aq v10_4) (ir (bt bG (aq v10_5) (az))) (mz))))
      (aI (eG s10_1 (I10).g (bt bG (bt bG (gh (aq v10_1) (mz) (ir (aq v10_3))) (aR (af (aq v10_4) (aj)))) (gh (aq v10_1) (ir (bt bG (aq v10_3) (az))) (mz))))))))
      (bh))))))
      (aI (aX (aq v10_1)))))
theorem sL {P:Program} {w:World} {K:PySem.W.Frag} {mg:Str->Option Value} {base:Heap} (x:Fx P w K mg base):dA P w K mg base 5 (He.ga K "_law_parts") 1 eZ:=by
  obtain⟨fd,Fd,D⟩:=sP x;exact D.u (FunD.bindsN Fd fun _ _ _ _ _ _ us hl=>match us,hl with | [_],_=>rfl)
theorem yq:FnScope ["row", "at", "part", "many", "plain", "words", "goals", "goal", "head", "place"] ["row", "at", "part", "many"] (defScope (top 23)):=⟨rfl,rfl,rfl,by decide +kernel,rfl,by decide +kernel,by decide +kernel⟩
theorem zL {base:Heap} (x:Fx P w K mg base):∃ fd,FunD K "step_in" "step_in" (defArgs (top 23)) (defBody (top 23)) (defScope (top 23)) [] [] (He.ga K "step_in") fd/\dw P w K mg base 1 (He.ga K "step_in") fd ["row", "at", "part", "many"] 4 gJ:=by
  refine cf x x.d_step_in yq rfl rfl fun X19 I19 T19=>?_
  obtain⟨⟨v19_0,v19_4,v19_2,v19_3,v19_1,v19_5,v19_6,v19_8,v19_7,_⟩,⟨s19_4,s19_5,s19_6,s19_7,s19_8,_⟩,⟨g19_0,g19_1,g19_2,g19_3,g19_4,_⟩⟩:=(I19).all [(0, "row"),(4, "plain"),(2, "part"),(3, "many"),(1, "at"),(5, "words"),(6, "goals"),(8, "head"),(7, "goal")] [(4, "plain"),(5, "words"),(6, "goals"),(7, "goal"),(8, "head")] ["str", "isinstance", "EACH", "range", "int"] (by decide +kernel)
  exact aB (bL (jP (gy (bc (oQ (ju (all_cons (I19).f.c_Reader all_nil) (all_cons (I19).f.is_Reader all_nil) (I19).f.io_Reader)) g19_1.gl (I19).f.n_isinstance (by kernel_rfl) (af (aq v19_0) (af (xY g19_0 (I19).f.n_str (by kernel_rfl)) (aj))))))
      (aI (aX (kQ)))
      (bh))
      (aB (eG s19_4 (I19).g (dj (af (av) (af (av) (af (av) (af (av) (af (av) (af (av) (aj)))))))))
      (aB (bL (aZ (iD (I19).g) (aq v19_0) (aq v19_4) rfl)
      (aI (aX (my (lM (vi (aZ (qR (I19).g.hu) (aq v19_0) (av) rfl) (o6 (aZ (cS (I19).g.hu) (aq v19_2) (cZ g19_2 (I19).f.c_EACH) rfl)))) (dj (af (aq v19_0) (aj))) (kQ))))
      (bh))
      (aB (eG s19_5 (I19).g (fP (T:=.str) Cn (aq v19_0) (af (av) (aj)) PySem.F.plainAttrs_str PySem.F.slot_str_split PySem.F.type_str_split))
      (aB (Ja I19 s19_6 [("place",9)] (yF g19_3.gl (I19).f.n_range (af (bt bG (aq v19_1) (az)) (af (bt bG (aq v19_3) (az)) (aj)))) (fun Y20 I20=>by
        obtain⟨⟨v20_9,_⟩,⟨s20_9,_⟩,⟨g20_0,_⟩⟩:=(I20).all [(9, "place")] [(9, "place")] ["str"] (by decide +kernel)
        exact⟨c4 s20_9 (I20).g,d3,bJ B6 g20_0.gl (I20).f.n_str (by kernel_rfl) (af (aq v20_9) (aj))⟩))
      (aB (bL (aZ (zy (I19).g) (bq (I19).g (aq v19_5) (oT (az))) (aq v19_6) rfl)
      (aI (aX (kQ)))
      (bh))
      (aB (vc I19 s19_7 s19_8 (af (bJ kP g19_4.gl (I19).f.n_int (by kernel_rfl) (af (bq (I19).g (aq v19_5) (oT (az))) (aj))) (af (fP (T:=.str) j9 (av) (af (gh (aq v19_5) (mz) (ir (oT (az)))) (aj)) PySem.F.plainAttrs_str PySem.F.slot_str_join PySem.F.type_str_join) (aj))))
      (aB (bL (aZ (cS (I19).g.hu) (aq v19_8) (av) rfl)
      (aI (aX (dj (af (av) (af (aq v19_7) (aj))))))
      (bh))
      (aB (bL (lM (vi (aZ (iD (I19).g) (aq v19_8) (dj (af (av) (af (av) (aj)))) rfl) (o6 (lM (o5 (aZ (cS (I19).g.hu) (aq v19_2) (cZ g19_2 (I19).f.c_EACH) rfl) (mY (aZ (iD (I19).g) (aq v19_8) (dj (af (av) (af (av) (aj)))) rfl)))))))
      (aI (aX (dj (af (bq (I19).g (aq v19_5) (az)) (af (aq v19_7) (aj))))))
      (bh))
      (aI (aX (kQ)))))))))))
theorem qX {P:Program} {w:World} {K:PySem.W.Frag} {mg:Str->Option Value} {base:Heap} (x:Fx P w K mg base):dA P w K mg base 1 (He.ga K "step_in") 4 gJ:=by
  obtain⟨fd,Fd,D⟩:=zL x;exact D.u (FunD.bindsN Fd fun _ _ _ _ _ _ us hl=>match us,hl with | [_,_,_,_],_=>rfl)
theorem th:FnScope ["rows", "part", "at", "row"] ["rows", "part"] (defScope (top 24)):=⟨rfl,rfl,rfl,by decide +kernel,rfl,by decide +kernel,by decide +kernel⟩
theorem vA {base:Heap} (x:Fx P w K mg base):∃ fd,FunD K "wrong_row" "wrong_row" (defArgs (top 24)) (defBody (top 24)) (defScope (top 24)) [] [] (He.ga K "wrong_row") fd/\dw P w K mg base 2 (He.ga K "wrong_row") fd ["rows", "part"] 2 dD:=by
  refine cf x x.d_wrong_row th rfl rfl fun X18 I18 T18=>?_
  obtain⟨⟨v18_0,v18_1,v18_2,v18_3,_⟩,⟨s18_3,s18_2,_⟩,⟨g18_0,g18_1,g18_2,g18_3,g18_4,g18_5,g18_6,_⟩⟩:=(I18).all [(0, "rows"),(1, "part"),(2, "at"),(3, "row")] [(3, "row"),(2, "at")] ["tuple", "isinstance", "LEAST", "len", "MOST", "enumerate", "step_in"] (by decide +kernel)
  exact aB (bL (lM (vi (jP (gy (bc (oQ (ju (all_cons (I18).f.c_Reader all_nil) (all_cons (I18).f.is_Reader all_nil) (I18).f.io_Reader)) g18_1.gl (I18).f.n_isinstance (by kernel_rfl) (af (aq v18_0) (af (xY g18_0 (I18).f.n_tuple (by kernel_rfl)) (aj)))))) (o6 (jP (Ct (Fj) (Fj) (xZ g18_2 (I18).f.c_LEAST (I18).f.tb_LEAST (I18).f.tv_LEAST (aq v18_1)) (bc fC g18_3.gl (I18).f.n_len (by kernel_rfl) (af (aq v18_0) (aj))) (xZ g18_4 (I18).f.c_MOST (I18).f.tb_MOST (I18).f.tv_MOST (aq v18_1)))))))
      (aI (aX (dj (af (kQ) (aj)))))
      (bh))
      (aB (kW (I18).g.pass (I18).g.calm (rN g18_5.gl (I18).f.n_enumerate (af (aq v18_0) (aj))) (iB (I18).g.calm (bz (c4 s18_2 (I18).g) (bz (c4 s18_3 (I18).g) (fW) (dP)) (d5 (cV 3) (dP))))
      (aI (bL (aZ (Hg) (aJ (I18).g (qX (I18).f) (by decide) g18_6.gl (I18).f.c_step_in (af (aq v18_3) (af (aq v18_2) (af (aq v18_1) (af (bc fC g18_3.gl (I18).f.n_len (by kernel_rfl) (af (aq v18_0) (aj))) (aj)))))) (kQ) rfl)
      (aI (aX (dj (af (aq v18_2) (aj)))))
      (bh))))
      (aI (aX (dj (aj)))))
theorem jR {P:Program} {w:World} {K:PySem.W.Frag} {mg:Str->Option Value} {base:Heap} (x:Fx P w K mg base):dA P w K mg base 2 (He.ga K "wrong_row") 2 dD:=by
  obtain⟨fd,Fd,D⟩:=vA x;exact D.u (FunD.bindsN Fd fun _ _ _ _ _ _ us hl=>match us,hl with | [_,_],_=>rfl)
theorem vL:FnScope ["rows", "part", "at", "row"] ["rows", "part"] (defScope (top 25)):=⟨rfl,rfl,rfl,by decide +kernel,rfl,by decide +kernel,by decide +kernel⟩
theorem wU {base:Heap} (x:Fx P w K mg base):∃ fd,FunD K "steps_of" "steps_of" (defArgs (top 25)) (defBody (top 25)) (defScope (top 25)) [] [] (He.ga K "steps_of") fd/\dw P w K mg base 2 (He.ga K "steps_of") fd ["rows", "part"] 2 eO:=by
  refine cf x x.d_steps_of vL rfl rfl fun X21 I21 T21=>?_
  obtain⟨⟨v21_0,_⟩,_,⟨g21_0,g21_1,_⟩⟩:=(I21).all [(0, "rows")] [] ["enumerate", "tuple"] (by decide +kernel)
  exact aI (aX (bJ eE g21_1.gl (I21).f.n_tuple (by kernel_rfl) (af (jN I21 [("at",2),("row",3)] (rN g21_0.gl (I21).f.n_enumerate (af (aq v21_0) (aj))) (fun Y22 I22=>by
        obtain⟨⟨v22_0,v22_1,v22_2,v22_3,_⟩,⟨s22_3,s22_2,_⟩,⟨g22_0,g22_1,_⟩⟩:=(I22).all [(0, "rows"),(1, "part"),(2, "at"),(3, "row")] [(3, "row"),(2, "at")] ["len", "step_in"] (by decide +kernel)
        exact⟨iB (I22).g.calm (bz (c4 s22_2 (I22).g) (bz (c4 s22_3 (I22).g) (fW) (dP)) (d5 (cV 3) (dP))),d3,aJ (I22).g (qX (I22).f) (by decide) g22_1.gl (I22).f.c_step_in (af (aq v22_3) (af (aq v22_2) (af (aq v22_1) (af (bc fC g22_0.gl (I22).f.n_len (by kernel_rfl) (af (aq v22_0) (aj))) (aj)))))⟩)) (aj))))
theorem kX {P:Program} {w:World} {K:PySem.W.Frag} {mg:Str->Option Value} {base:Heap} (x:Fx P w K mg base):dA P w K mg base 2 (He.ga K "steps_of") 2 eO:=by
  obtain⟨fd,Fd,D⟩:=wU x;exact D.u (FunD.bindsN Fd fun _ _ _ _ _ _ us hl=>match us,hl with | [_,_],_=>rfl)
theorem pH:FnScope ["self", "each", "piece", "last", "wrong"] ["self", "each", "piece", "last"] (defScope (inClass (top 27) 0)):=⟨rfl,rfl,rfl,by decide +kernel,rfl,by decide +kernel,by decide +kernel⟩
theorem pT {base:Heap} (x:Fx P w K mg base):∃ fd,FunD K "__init__" "Reader.__init__" (defArgs (inClass (top 27) 0)) (defBody (inClass (top 27) 0)) (defScope (inClass (top 27) 0)) (([.adr (He.dflAt ("Reader",some "__init__") 0),.adr (He.dflAt ("Reader",some "__init__") 1)]:List He.Dv).map (He.Dv.v K)) [] (He.ma K (He.ga K "Reader") "__init__") fd/\dw P w K mg base 3 (He.ma K (He.ga K "Reader") "__init__") fd ["self", "each", "piece", "last"] 4 d7:=by
  refine cf x x.d_Reader_init pH rfl rfl fun X17 I17 T17=>?_
  obtain⟨⟨v17_1,v17_4,v17_2,v17_3,v17_0,_⟩,⟨s17_4,_⟩,⟨g17_0,g17_1,g17_2,g17_3,g17_4,g17_5,g17_6,g17_7,_⟩⟩:=(I17).all [(1, "each"),(4, "wrong"),(2, "piece"),(3, "last"),(0, "self")] [(4, "wrong")] ["EACH", "wrong_row", "InvalidEach", "PIECE", "InvalidPiece", "LAST", "InvalidLast", "steps_of"] (by decide +kernel)
  exact aB (eG s17_4 (I17).g (aJ (I17).g (jR (I17).f) (by decide) g17_1.gl (I17).f.c_wrong_row (af (aq v17_1) (af (cZ g17_0 (I17).f.c_EACH) (aj)))))
      (aB (bL (gy (aq v17_4))
      (aI (gQ (I17).g (I17).f.ex_InvalidEach g17_2.gl (I17).f.c_InvalidEach (af (bq (I17).g (aq v17_4) (az)) (aj))))
      (bh))
      (aB (eG s17_4 (I17).g (aJ (I17).g (jR (I17).f) (by decide) g17_1.gl (I17).f.c_wrong_row (af (aq v17_2) (af (cZ g17_3 (I17).f.c_PIECE) (aj)))))
      (aB (bL (gy (aq v17_4))
      (aI (gQ (I17).g (I17).f.ex_InvalidPiece g17_4.gl (I17).f.c_InvalidPiece (af (bq (I17).g (aq v17_4) (az)) (aj))))
      (bh))
      (aB (eG s17_4 (I17).g (aJ (I17).g (jR (I17).f) (by decide) g17_1.gl (I17).f.c_wrong_row (af (aq v17_3) (af (cZ g17_5 (I17).f.c_LAST) (aj)))))
      (aB (bL (gy (aq v17_4))
      (aI (gQ (I17).g (I17).f.ex_InvalidLast g17_6.gl (I17).f.c_InvalidLast (af (bq (I17).g (aq v17_4) (az)) (aj))))
      (bh))
      (aB (mi I17 (xX (iO (cZ g17_0 (I17).f.c_EACH) (aq v17_1) (iO (cZ g17_3 (I17).f.c_PIECE) (aq v17_2) (iO (cZ g17_5 (I17).f.c_LAST) (aq v17_3) (yf))))) (mW (j:=0) (all_cons (kB (I17).f.c_Reader (I17).f.cl_Reader (I17).f.na_Reader_parts) all_nil) (aq v17_0)))
      (aB (mi I17 (xX (iO (cZ g17_0 (I17).f.c_EACH) (aJ (I17).g (kX (I17).f) (by decide) g17_7.gl (I17).f.c_steps_of (af (aq v17_1) (af (cZ g17_0 (I17).f.c_EACH) (aj)))) (iO (cZ g17_3 (I17).f.c_PIECE) (aJ (I17).g (kX (I17).f) (by decide) g17_7.gl (I17).f.c_steps_of (af (aq v17_2) (af (cZ g17_3 (I17).f.c_PIECE) (aj)))) (iO (cZ g17_5 (I17).f.c_LAST) (aJ (I17).g (kX (I17).f) (by decide) g17_7.gl (I17).f.c_steps_of (af (aq v17_3) (af (cZ g17_5 (I17).f.c_LAST) (aj)))) (yf))))) (mW (j:=0) (all_cons (kB (I17).f.c_Reader (I17).f.cl_Reader (I17).f.na_Reader_steps) all_nil) (aq v17_0)))
      (aB (mi I17 (dj (j8 (aq v17_1) (j8 (aq v17_2) (j8 (aq v17_3) (aj))))) (mW (j:=0) (all_cons (kB (I17).f.c_Reader (I17).f.cl_Reader (I17).f.na_Reader_whole) all_nil) (aq v17_0)))
      (aI (mi I17 (fP (T:=.str) j9 (av) (af (aR (af (cZ g17_0 (I17).f.c_EACH) (j8 (aq v17_1) (af (cZ g17_3 (I17).f.c_PIECE) (j8 (aq v17_2) (af (cZ g17_5 (I17).f.c_LAST) (j8 (aq v17_3) (aj)))))))) (aj)) PySem.F.plainAttrs_str PySem.F.slot_str_join PySem.F.type_str_join) (mW (j:=0) (all_cons (kB (I17).f.c_Reader (I17).f.cl_Reader (I17).f.na_Reader_shown) all_nil) (aq v17_0))))))))))))
theorem pQ {P:Program} {w:World} {K:PySem.W.Frag} {mg:Str->Option Value} {base:Heap} (x:Fx P w K mg base):dA P w K mg base 3 (He.ma K (He.ga K "Reader") "__init__") 4 d7:=by
  obtain⟨fd,Fd,D⟩:=pT x
  exact D.u (by
    obtain⟨ds,hv,hb⟩:=FunD.binds1 (ps:=["self", "each", "piece", "last"]) Fd 4 2 (List.cons_ne_nil _ _) rfl fun _ _ _ _ _ _ _ us its hu hi=>match us,its,hu,hi with | [_,_,_,_],[_,_],_,_=>⟨_,rfl,rfl⟩
    cases hv
    exact hb)
theorem sZ:FnScope ["_law_some"] ["_law_some"] (defScope (top 45)):=⟨rfl,rfl,rfl,by decide +kernel,rfl,by decide +kernel,by decide +kernel⟩
theorem vz {base:Heap} (x:Fx P w K mg base):∃ fd,FunD K "_law_made" "_law_made" (defArgs (top 45)) (defBody (top 45)) (defScope (top 45)) [] [] (He.ga K "_law_made") fd/\dw P w K mg base 5 (He.ga K "_law_made") fd ["_law_some"] 1 fZ:=by
  refine cf x x.d__law_made sZ rfl rfl fun X16 I16 T16=>?_
  obtain⟨⟨v16_0,_⟩,_,⟨g16_0,g16_1,_⟩⟩:=(I16).all [(0, "_law_some")] [] ["tuple", "Reader"] (by decide +kernel)
  exact aI (aX (Ei (I16).g ⟨(I16).f.c_Reader,_,_,_,(I16).f.mk_Reader,pQ (I16).f,by decide⟩ g16_1.gl (I16).f.kp_Reader (af (bJ eE g16_0.gl (I16).f.n_tuple (by kernel_rfl) (af (bq (I16).g (aq v16_0) (az)) (aj))) (af (bJ eE g16_0.gl (I16).f.n_tuple (by kernel_rfl) (af (bq (I16).g (aq v16_0) (az)) (aj))) (af (bJ eE g16_0.gl (I16).f.n_tuple (by kernel_rfl) (af (bq (I16).g (aq v16_0) (az)) (aj))) (aj))))))
theorem vq {P:Program} {w:World} {K:PySem.W.Frag} {mg:Str->Option Value} {base:Heap} (x:Fx P w K mg base):dA P w K mg base 5 (He.ga K "_law_made") 1 fZ:=by
  obtain⟨fd,Fd,D⟩:=vz x;exact D.u (FunD.bindsN Fd fun _ _ _ _ _ _ us hl=>match us,hl with | [_],_=>rfl)
theorem nc:FnScope ["value"] ["value"] (defScope (top 28)):=⟨rfl,rfl,rfl,by decide +kernel,rfl,by decide +kernel,by decide +kernel⟩
theorem pj {base:Heap} (x:Fx P w K mg base):∃ fd,FunD K "check_reader" "check_reader" (defArgs (top 28)) (defBody (top 28)) (defScope (top 28)) [] [] (He.ga K "check_reader") fd/\dw P w K mg base 1 (He.ga K "check_reader") fd ["value"] 1 dC:=by
  refine cf x x.d_check_reader nc rfl rfl fun X24 I24 T24=>?_
  obtain⟨⟨v24_0,_⟩,_,⟨g24_0,g24_1,g24_2,_⟩⟩:=(I24).all [(0, "value")] [] ["Reader", "isinstance", "NotAReader"] (by decide +kernel)
  exact aI (bL (jP (gy (bc (oQ (ju (all_cons (I24).f.c_Reader all_nil) (all_cons (I24).f.is_Reader all_nil) (I24).f.io_Reader)) g24_1.gl (I24).f.n_isinstance (by kernel_rfl) (af (aq v24_0) (af (IM g24_0 (I24).f.c_Reader) (aj))))))
      (aI (gQ (I24).g (I24).f.ex_NotAReader g24_2.gl (I24).f.c_NotAReader (af (aq v24_0) (aj))))
      (bh))
theorem pf {P:Program} {w:World} {K:PySem.W.Frag} {mg:Str->Option Value} {base:Heap} (x:Fx P w K mg base):dA P w K mg base 1 (He.ga K "check_reader") 1 dC:=by
  obtain⟨fd,Fd,D⟩:=pj x;exact D.u (FunD.bindsN Fd fun _ _ _ _ _ _ us hl=>match us,hl with | [_],_=>rfl)
theorem vJ:FnScope ["value", "sign"] ["value"] (defScope (top 22)):=⟨rfl,rfl,rfl,by decide +kernel,rfl,by decide +kernel,by decide +kernel⟩
theorem wQ {base:Heap} (x:Fx P w K mg base):∃ fd,FunD K "is_signs" "is_signs" (defArgs (top 22)) (defBody (top 22)) (defScope (top 22)) [] [] (He.ga K "is_signs") fd/\dw P w K mg base 1 (He.ga K "is_signs") fd ["value"] 1 gR:=by
  refine cf x x.d_is_signs vJ rfl rfl fun X26 I26 T26=>?_
  obtain⟨⟨v26_0,_⟩,_,⟨g26_0,g26_1,g26_2,_⟩⟩:=(I26).all [(0, "value")] [] ["str", "isinstance", "all"] (by decide +kernel)
  exact aI (aX (G3 (bc (oQ (ju (all_cons (I26).f.c_Reader all_nil) (all_cons (I26).f.is_Reader all_nil) (I26).f.io_Reader)) g26_1.gl (I26).f.n_isinstance (by kernel_rfl) (af (aq v26_0) (af (xY g26_0 (I26).f.n_str (by kernel_rfl)) (aj)))) (wC (bc (B3 (I26).g.calm) g26_2.gl (I26).f.n_all (by kernel_rfl) (af (jN I26 [("sign",1)] (gm (aq v26_0)) (fun Y27 I27=>by
        obtain⟨⟨v27_1,_⟩,⟨s27_1,_⟩,⟨g27_0,g27_1,g27_2,_⟩⟩:=(I27).all [(1, "sign")] [(1, "sign")] ["LETTERS", "MARK", "END"] (by decide +kernel)
        exact⟨c4 s27_1 (I27).g,d3,Fg (i8 (iD (I27).g) (aq v27_1) (cZ g27_0 (I27).f.c_LETTERS) rfl) (wC (i8 (iD (I27).g) (aq v27_1) (dj (af (cZ g27_2 (I27).f.c_END) (af (cZ g27_1 (I27).f.c_MARK) (aj)))) rfl))⟩)) (aj))))))
theorem wM {P:Program} {w:World} {K:PySem.W.Frag} {mg:Str->Option Value} {base:Heap} (x:Fx P w K mg base):dA P w K mg base 1 (He.ga K "is_signs") 1 gR:=by
  obtain⟨fd,Fd,D⟩:=wQ x;exact D.u (FunD.bindsN Fd fun _ _ _ _ _ _ us hl=>match us,hl with | [_],_=>rfl)
theorem m9:FnScope ["value", "index", "piece"] ["value"] (defScope (top 29)):=⟨rfl,rfl,rfl,by decide +kernel,rfl,by decide +kernel,by decide +kernel⟩
theorem ph {base:Heap} (x:Fx P w K mg base):∃ fd,FunD K "check_pieces" "check_pieces" (defArgs (top 29)) (defBody (top 29)) (defScope (top 29)) [] [] (He.ga K "check_pieces") fd/\dw P w K mg base 2 (He.ga K "check_pieces") fd ["value"] 1 dB:=by
  refine cf x x.d_check_pieces m9 rfl rfl fun X25 I25 T25=>?_
  obtain⟨⟨v25_0,v25_2,v25_1,_⟩,⟨s25_2,s25_1,_⟩,⟨g25_0,g25_1,g25_2,g25_3,g25_4,_⟩⟩:=(I25).all [(0, "value"),(2, "piece"),(1, "index")] [(2, "piece"),(1, "index")] ["tuple", "isinstance", "InvalidPieces", "enumerate", "is_signs"] (by decide +kernel)
  exact aB (bL (jP (gy (bc (oQ (ju (all_cons (I25).f.c_Reader all_nil) (all_cons (I25).f.is_Reader all_nil) (I25).f.io_Reader)) g25_1.gl (I25).f.n_isinstance (by kernel_rfl) (af (aq v25_0) (af (xY g25_0 (I25).f.n_tuple (by kernel_rfl)) (aj))))))
      (aI (gQ (I25).g (I25).f.ex_InvalidPieces g25_2.gl (I25).f.c_InvalidPieces (af (kQ) (aj))))
      (bh))
      (aI (kW (I25).g.pass (I25).g.calm (rN g25_3.gl (I25).f.n_enumerate (af (aq v25_0) (aj))) (iB (I25).g.calm (bz (c4 s25_1 (I25).g) (bz (c4 s25_2 (I25).g) (fW) (dP)) (d5 (cV 2) (dP))))
      (aI (bL (jP (gy (aJ (I25).g (wM (I25).f) (by decide) g25_4.gl (I25).f.c_is_signs (af (aq v25_2) (aj)))))
      (aI (gQ (I25).g (I25).f.ex_InvalidPieces g25_2.gl (I25).f.c_InvalidPieces (af (aq v25_1) (aj))))
      (bh)))))
theorem pd {P:Program} {w:World} {K:PySem.W.Frag} {mg:Str->Option Value} {base:Heap} (x:Fx P w K mg base):dA P w K mg base 2 (He.ga K "check_pieces") 1 dB:=by
  obtain⟨fd,Fd,D⟩:=ph x;exact D.u (FunD.bindsN Fd fun _ _ _ _ _ _ us hl=>match us,hl with | [_],_=>rfl)
theorem CP:FnScope ["word", "sign", "line", "is_on"] ["word", "sign", "line", "is_on"] (defScope (top 31)):=⟨rfl,rfl,rfl,by decide +kernel,rfl,by decide +kernel,by decide +kernel⟩
theorem EI {base:Heap} (x:Fx P w K mg base):∃ fd,FunD K "holds" "holds" (defArgs (top 31)) (defBody (top 31)) (defScope (top 31)) [] [] (He.ga K "holds") fd/\dw P w K mg base 1 (He.ga K "holds") fd ["word", "sign", "line", "is_on"] 4 kZ:=by
  refine cf x x.d_holds CP rfl rfl fun X30 I30 T30=>?_
  obtain⟨⟨v30_0,v30_1,v30_2,v30_3,_⟩,_,⟨g30_0,g30_1,_⟩⟩:=(I30).all [(0, "word"),(1, "sign"),(2, "line"),(3, "is_on")] [] ["END", "MARK"] (by decide +kernel)
  exact aB (bL (aZ (cS (I30).g.hu) (aq v30_0) (av) rfl)
      (aI (aX (i8 (cS (I30).g.hu) (aq v30_1) (cZ g30_0 (I30).f.c_END) rfl)))
      (bh))
      (aB (bL (aZ (cS (I30).g.hu) (aq v30_0) (av) rfl)
      (aI (aX (i8 (cS (I30).g.hu) (aq v30_1) (cZ g30_1 (I30).f.c_MARK) rfl)))
      (bh))
      (aI (aX (my (aZ (cS (I30).g.hu) (aq v30_0) (av) rfl) (i8 (cS (I30).g.hu) (aq v30_2) (av) rfl) (aq v30_3)))))
theorem EG {P:Program} {w:World} {K:PySem.W.Frag} {mg:Str->Option Value} {base:Heap} (x:Fx P w K mg base):dA P w K mg base 1 (He.ga K "holds") 4 kZ:=by
  obtain⟨fd,Fd,D⟩:=EI x;exact D.u (FunD.bindsN Fd fun _ _ _ _ _ _ us hl=>match us,hl with | [_,_,_,_],_=>rfl)
theorem FC:FnScope ["line"] ["line"] (defScope (top 32)):=⟨rfl,rfl,rfl,by decide +kernel,rfl,by decide +kernel,by decide +kernel⟩
theorem Hv {base:Heap} (x:Fx P w K mg base):∃ fd,FunD K "bare" "bare" (defArgs (top 32)) (defBody (top 32)) (defScope (top 32)) [] [] (He.ga K "bare") fd/\dw P w K mg base 1 (He.ga K "bare") fd ["line"] 1 m5:=by
  refine cf x x.d_bare FC rfl rfl fun X31 I31 T31=>?_
  obtain⟨⟨v31_0,_⟩,_,⟨g31_0,_⟩⟩:=(I31).all [(0, "line")] [] ["MARK"] (by decide +kernel)
  exact aI (aX (my (aZ (cS (I31).g.hu) (gh (aq v31_0) (ir (oT (az))) (mz)) (cZ g31_0 (I31).f.c_MARK) rfl) (gh (aq v31_0) (mz) (ir (oT (az)))) (aq v31_0)))
theorem Hu {P:Program} {w:World} {K:PySem.W.Frag} {mg:Str->Option Value} {base:Heap} (x:Fx P w K mg base):dA P w K mg base 1 (He.ga K "bare") 1 m5:=by
  obtain⟨fd,Fd,D⟩:=Hv x;exact D.u (FunD.bindsN Fd fun _ _ _ _ _ _ us hl=>match us,hl with | [_],_=>rfl)
theorem FF:FnScope ["steps", "sign", "line", "is_on", "at", "told", "is_added", "step", "word"] ["steps", "sign", "line", "is_on"] (defScope (top 33)):=⟨rfl,rfl,rfl,by decide +kernel,rfl,by decide +kernel,by decide +kernel⟩
theorem Hw {base:Heap} (x:Fx P w K mg base):∃ fd,FunD K "done" "done" (defArgs (top 33)) (defBody (top 33)) (defScope (top 33)) [] [] (He.ga K "done") fd/\dw P w K mg base 2 (He.ga K "done") fd ["steps", "sign", "line", "is_on"] 4 kq:=by
  refine cf x x.d_done FF rfl rfl fun X29 I29 T29=>?_
  obtain⟨⟨v29_4,v29_0,v29_7,v29_8,v29_3,v29_2,v29_1,v29_6,v29_5,_⟩,⟨s29_4,s29_5,s29_6,s29_7,s29_8,s29_2,s29_3,_⟩,⟨g29_0,g29_1,g29_2,g29_3,_⟩⟩:=(I29).all [(4, "at"),(0, "steps"),(7, "step"),(8, "word"),(3, "is_on"),(2, "line"),(1, "sign"),(6, "is_added"),(5, "told")] [(4, "at"),(5, "told"),(6, "is_added"),(7, "step"),(8, "word"),(2, "line"),(3, "is_on")] ["len", "holds", "END", "bare"] (by decide +kernel)
  exact aB (Fm I29 s29_4 s29_5 s29_6 (af (az) (af (aR (aj)) (af (mx) (aj)))))
      (aB (Cs (I29).g.pass (aZ (qQ) (aq v29_4) (bc fC g29_0.gl (I29).f.n_len (by kernel_rfl) (af (aq v29_0) (aj))) rfl)
      (aB (eG s29_7 (I29).g (bq (I29).g (aq v29_0) (aq v29_4)))
      (aB (eG s29_8 (I29).g (bq (I29).g (aq v29_7) (az)))
      (aB (Ex s29_4 (I29).g (az) Eo)
      (aI (bL (lM (vi (aZ (cS (I29).g.hu) (aq v29_8) (av) rfl) (o6 (lM (o5 (aZ (cS (I29).g.hu) (bc fC g29_0.gl (I29).f.n_len (by kernel_rfl) (af (aq v29_7) (aj))) (az) rfl) (mY (gy (aJ (I29).g (EG (I29).f) (by decide) g29_1.gl (I29).f.c_holds (af (aq v29_8) (af (aq v29_1) (af (aq v29_2) (af (aq v29_3) (aj)))))))))))))
      (aI (eG s29_4 (I29).g (bq (I29).g (aq v29_7) (az))))
      (aI (bL (aZ (cS (I29).g.hu) (bc fC g29_0.gl (I29).f.n_len (by kernel_rfl) (af (aq v29_7) (aj))) (az) rfl)
      (aB (bL (lM (o5 (aZ (cS (I29).g.hu) (aq v29_8) (av) rfl) (o5 (aZ (qR (I29).g.hu) (aq v29_1) (cZ g29_2 (I29).f.c_END) rfl) (mY (jP (gy (aq v29_6)))))))
      (aI (vc I29 s29_2 s29_6 (af (bt bG (aq v29_2) (aq v29_1)) (af (mx) (aj)))))
      (bh))
      (aB (bL (aZ (iD (I29).g) (aq v29_8) (dj (af (av) (af (av) (aj)))) rfl)
      (aI (lL (fP (T:=.list) zu (aq v29_5) (af (my (aZ (cS (I29).g.hu) (aq v29_8) (av) rfl) (aq v29_2) (aJ (I29).g (Hu (I29).f) (by decide) g29_3.gl (I29).f.c_bare (af (aq v29_2) (aj)))) (aj)) PySem.F.plainAttrs_list PySem.F.slot_list_append PySem.F.type_list_append)))
      (bh))
      (aB (bL (aZ (iD (I29).g) (aq v29_8) (dj (af (av) (af (av) (af (av) (aj))))) rfl)
      (aI (eG s29_2 (I29).g (av)))
      (bh))
      (aI (bL (aZ (iD (I29).g) (aq v29_8) (dj (af (av) (af (av) (aj)))) rfl)
      (aI (eG s29_3 (I29).g (i8 (cS (I29).g.hu) (aq v29_8) (av) rfl)))
      (bh))))))
      (bh)))))))))
      (aI (aX (dj (af (aq v29_2) (af (aq v29_3) (af (aq v29_5) (aj))))))))
theorem wL {P:Program} {w:World} {K:PySem.W.Frag} {mg:Str->Option Value} {base:Heap} (x:Fx P w K mg base):dA P w K mg base 2 (He.ga K "done") 4 kq:=by
  obtain⟨fd,Fd,D⟩:=Hw x;exact D.u (FunD.bindsN Fd fun _ _ _ _ _ _ us hl=>match us,hl with | [_,_,_,_],_=>rfl)
theorem vK:FnScope ["reader", "pieces", "piece", "line", "is_on", "found", "sign", "told"] ["reader", "pieces"] (defScope (top 34)):=⟨rfl,rfl,rfl,by decide +kernel,rfl,by decide +kernel,by decide +kernel⟩
theorem wR {base:Heap} (x:Fx P w K mg base):∃ fd,FunD K "lines_of" "lines_of" (defArgs (top 34)) (defBody (top 34)) (defScope (top 34)) [] [] (He.ga K "lines_of") fd/\dw P w K mg base 3 (He.ga K "lines_of") fd ["reader", "pieces"] 2 gS:=by
  refine cf x x.d_lines_of vK rfl rfl fun X28 I28 T28=>?_
  obtain⟨⟨v28_1,v28_2,v28_4,v28_3,v28_6,v28_0,v28_5,v28_7,_⟩,⟨s28_3,s28_4,s28_5,s28_2,s28_6,s28_7,_⟩,⟨g28_0,g28_1,g28_2,g28_3,g28_4,_⟩⟩:=(I28).all [(1, "pieces"),(2, "piece"),(4, "is_on"),(3, "line"),(6, "sign"),(0, "reader"),(5, "found"),(7, "told")] [(3, "line"),(4, "is_on"),(5, "found"),(2, "piece"),(6, "sign"),(7, "told")] ["EACH", "done", "PIECE", "LAST", "tuple"] (by decide +kernel)
  exact aB (Fm I28 s28_3 s28_4 s28_5 (af (av) (af (mx) (af (aR (aj)) (aj)))))
      (aB (kW (I28).g.pass (I28).g.calm (gm (aq v28_1)) (c4 s28_2 (I28).g)
      (aB (kW (I28).g.pass (I28).g.calm (gm (aq v28_2)) (c4 s28_6 (I28).g)
      (aB (mi I28 (aJ (I28).g (wL (I28).f) (by decide) g28_1.gl (I28).f.c_done (af (bq (I28).g (sA (I28).g (all_cons (kB (I28).f.c_Reader (I28).f.cl_Reader (I28).f.na_Reader_steps) all_nil) (aq v28_0)) (cZ g28_0 (I28).f.c_EACH)) (af (aq v28_6) (af (aq v28_3) (af (aq v28_4) (aj)))))) (iB (I28).g.calm (bz (c4 s28_3 (I28).g) (bz (c4 s28_4 (I28).g) (bz (c4 s28_7 (I28).g) (fW) (dP)) (d5 (cV 7) (dP))) (d5 (cV 4) (d5 (cV 7) (dP))))))
      (aI (lL (fP (T:=.list) qN (aq v28_5) (af (aq v28_7) (aj)) PySem.F.plainAttrs_list PySem.F.slot_list_extend PySem.F.type_list_extend)))))
      (aB (mi I28 (aJ (I28).g (wL (I28).f) (by decide) g28_1.gl (I28).f.c_done (af (bq (I28).g (sA (I28).g (all_cons (kB (I28).f.c_Reader (I28).f.cl_Reader (I28).f.na_Reader_steps) all_nil) (aq v28_0)) (cZ g28_2 (I28).f.c_PIECE)) (af (av) (af (aq v28_3) (af (aq v28_4) (aj)))))) (iB (I28).g.calm (bz (c4 s28_3 (I28).g) (bz (c4 s28_4 (I28).g) (bz (c4 s28_7 (I28).g) (fW) (dP)) (d5 (cV 7) (dP))) (d5 (cV 4) (d5 (cV 7) (dP))))))
      (aI (lL (fP (T:=.list) qN (aq v28_5) (af (aq v28_7) (aj)) PySem.F.plainAttrs_list PySem.F.slot_list_extend PySem.F.type_list_extend))))))
      (aB (mi I28 (aJ (I28).g (wL (I28).f) (by decide) g28_1.gl (I28).f.c_done (af (bq (I28).g (sA (I28).g (all_cons (kB (I28).f.c_Reader (I28).f.cl_Reader (I28).f.na_Reader_steps) all_nil) (aq v28_0)) (cZ g28_3 (I28).f.c_LAST)) (af (av) (af (aq v28_3) (af (aq v28_4) (aj)))))) (iB (I28).g.calm (bz (c4 s28_3 (I28).g) (bz (c4 s28_4 (I28).g) (bz (c4 s28_7 (I28).g) (fW) (dP)) (d5 (cV 7) (dP))) (d5 (cV 4) (d5 (cV 7) (dP))))))
      (aI (aX (bJ eE g28_4.gl (I28).f.n_tuple (by kernel_rfl) (af (bt bG (aq v28_5) (aq v28_7)) (aj)))))))
theorem wN {P:Program} {w:World} {K:PySem.W.Frag} {mg:Str->Option Value} {base:Heap} (x:Fx P w K mg base):dA P w K mg base 3 (He.ga K "lines_of") 2 gS:=by
  obtain⟨fd,Fd,D⟩:=wR x;exact D.u (FunD.bindsN Fd fun _ _ _ _ _ _ us hl=>match us,hl with | [_,_],_=>rfl)
theorem CQ:FnScope ["reader", "pieces"] ["reader", "pieces"] (defScope (top 35)):=⟨rfl,rfl,rfl,by decide +kernel,rfl,by decide +kernel,by decide +kernel⟩
theorem EJ {base:Heap} (x:Fx P w K mg base):∃ fd,FunD K "lines" "lines" (defArgs (top 35)) (defBody (top 35)) (defScope (top 35)) [] [] (He.ga K "lines") fd/\dw P w K mg base 4 (He.ga K "lines") fd ["reader", "pieces"] 2 iQ:=by
  refine cf x x.d_lines CQ rfl rfl fun X23 I23 T23=>?_
  obtain⟨⟨v23_0,v23_1,_⟩,_,⟨g23_0,g23_1,g23_2,_⟩⟩:=(I23).all [(0, "reader"),(1, "pieces")] [] ["check_reader", "check_pieces", "lines_of"] (by decide +kernel)
  exact aB (lL (aJ (I23).g (pf (I23).f) (by decide) g23_0.gl (I23).f.c_check_reader (af (aq v23_0) (aj))))
      (aB (lL (aJ (I23).g (pd (I23).f) (by decide) g23_1.gl (I23).f.c_check_pieces (af (aq v23_1) (aj))))
      (aI (aX (aJ (I23).g (wN (I23).f) (by decide) g23_2.gl (I23).f.c_lines_of (af (aq v23_0) (af (aq v23_1) (aj)))))))
theorem sO {P:Program} {w:World} {K:PySem.W.Frag} {mg:Str->Option Value} {base:Heap} (x:Fx P w K mg base):dA P w K mg base 4 (He.ga K "lines") 2 iQ:=by
  obtain⟨fd,Fd,D⟩:=EJ x;exact D.u (FunD.bindsN Fd fun _ _ _ _ _ _ us hl=>match us,hl with | [_,_],_=>rfl)
theorem lQ:FnScope ["_law_piece_here", "_law_move", "_law_sign", "_law_alphabet", "_law_back", "_law_moved_on"] ["_law_piece_here", "_law_move"] (defScope (top 48)):=⟨rfl,rfl,rfl,by decide +kernel,rfl,by decide +kernel,by decide +kernel⟩
theorem mm {base:Heap} (x:Fx P w K mg base):∃ fd,FunD K "_law_exchanged" "_law_exchanged" (defArgs (top 48)) (defBody (top 48)) (defScope (top 48)) [] [] (He.ga K "_law_exchanged") fd/\dw P w K mg base 1 (He.ga K "_law_exchanged") fd ["_law_piece_here", "_law_move"] 2 cz:=by
  refine cf x x.d__law_exchanged lQ rfl rfl fun X33 I33 T33=>?_
  obtain⟨⟨v33_0,v33_2,v33_3,v33_1,v33_4,v33_5,_⟩,⟨s33_4,s33_3,s33_2,s33_5,_⟩,⟨g33_0,_⟩⟩:=(I33).all [(0, "_law_piece_here"),(2, "_law_sign"),(3, "_law_alphabet"),(1, "_law_move"),(4, "_law_back"),(5, "_law_moved_on")] [(4, "_law_back"),(3, "_law_alphabet"),(2, "_law_sign"),(5, "_law_moved_on")] ["int"] (by decide +kernel)
  exact aB (mi I33 (dj (af (av) (af (av) (aj)))) (iB (I33).g.calm (bz (c4 s33_3 (I33).g) (bz (c4 s33_4 (I33).g) (fW) (dP)) (d5 (cV 4) (dP)))))
      (aB (kW (I33).g.pass (I33).g.calm (gm (aq v33_0)) (c4 s33_2 (I33).g)
      (aB (eG s33_5 (I33).g (my (aZ (iD (I33).g) (aq v33_2) (aq v33_3) rfl) (bq (I33).g (aq v33_3) (bt oZ (bJ kP g33_0.gl (I33).f.n_int (by kernel_rfl) (af (bt bG (fP (T:=.str) zw (aq v33_3) (af (aq v33_2) (aj)) PySem.F.plainAttrs_str PySem.F.slot_str_index PySem.F.type_str_index) (aq v33_1)) (aj))) (az))) (aq v33_2)))
      (aI (eG s33_4 (I33).g (bt bG (aq v33_4) (aq v33_5))))))
      (aI (aX (aq v33_4))))
theorem iP {P:Program} {w:World} {K:PySem.W.Frag} {mg:Str->Option Value} {base:Heap} (x:Fx P w K mg base):dA P w K mg base 1 (He.ga K "_law_exchanged") 2 cz:=by
  obtain⟨fd,Fd,D⟩:=mm x;exact D.u (FunD.bindsN Fd fun _ _ _ _ _ _ us hl=>match us,hl with | [_,_],_=>rfl)
theorem rl:FnScope ["_law_spring_here", "_law_turn", "_law_other", "_law_rows_here", "_law_some", "_law_pieces_here", "_law_mine", "_law_move", "_law_told", "_law_whole", "_law_plain_pieces", "_law_due", "_law_sign", "_law_line", "_law_piece_here"] ["_law_spring_here"] (defScope (top 49)):=⟨rfl,rfl,rfl,by decide +kernel,rfl,by decide +kernel,by decide +kernel⟩
theorem sQ {base:Heap} (x:Fx P w K mg base):∃ fd,FunD K "_law_right" "_law_right" (defArgs (top 49)) (defBody (top 49)) (defScope (top 49)) [] [] (He.ga K "_law_right") fd/\dw P w K mg base 6 (He.ga K "_law_right") fd ["_law_spring_here"] 1 dU:=by
  refine Ad x x.d__law_right rl rfl rfl fun X3 I3 T3=>?_
  obtain⟨⟨v3_0,v3_4,v3_5,v3_6,v3_2,v3_8,v3_3,v3_10,v3_11,_⟩,⟨s3_1,s3_4,s3_5,s3_7,s3_6,s3_9,s3_8,s3_2,s3_3,s3_10,s3_11,_⟩,⟨g3_0,g3_1,g3_2,g3_3,g3_4,g3_5,g3_6,g3_7,g3_8,_⟩⟩:=(I3).all [(0, "_law_spring_here"),(4, "_law_some"),(5, "_law_pieces_here"),(6, "_law_mine"),(2, "_law_other"),(8, "_law_told"),(3, "_law_rows_here"),(10, "_law_plain_pieces"),(11, "_law_due")] [(1, "_law_turn"),(4, "_law_some"),(5, "_law_pieces_here"),(7, "_law_move"),(6, "_law_mine"),(9, "_law_whole"),(8, "_law_told"),(2, "_law_other"),(3, "_law_rows_here"),(10, "_law_plain_pieces"),(11, "_law_due")] ["range", "_law_pieces", "_law_parts", "_law_draw", "_law_made", "lines", "tuple", "repr", "any"] (by decide +kernel)
  exact dS (EA (I3).g.pass (I3).g.calm (gL g3_0.gl (I3).f.n_range (af (az) (aj))) (c4 s3_1 (I3).g)
      (dS (iE (vc I3 s3_4 s3_5 (af (aJ (I3).g (sL (I3).f) (by decide) g3_2.gl (I3).f.c__law_parts (af (aq v3_0) (aj))) (af (aJ (I3).g (pR (I3).f) (by decide) g3_1.gl (I3).f.c__law_pieces (af (aq v3_0) (aj))) (aj)))))
      (dS (iE (mi I3 (dj (af (aJ (I3).g (vq (I3).f) (by decide) g3_4.gl (I3).f.c__law_made (af (aq v3_4) (aj))) (af (bt bG (az) (aJ (I3).g (cy (I3).f) (by decide) g3_3.gl (I3).f.c__law_draw (af (aq v3_0) (af (az) (aj))))) (aj)))) (iB (I3).g.calm (bz (c4 s3_6 (I3).g) (bz (c4 s3_7 (I3).g) (fW) (dP)) (d5 (cV 7) (dP))))))
      (dS (iE (mi I3 (dj (af (aJ (I3).g (sO (I3).f) (by decide) g3_5.gl (I3).f.c_lines (af (aq v3_6) (af (aq v3_5) (aj)))) (af (fP (T:=.str) j9 (av) (af (aq v3_5) (aj)) PySem.F.plainAttrs_str PySem.F.slot_str_join PySem.F.type_str_join) (aj)))) (iB (I3).g.calm (bz (c4 s3_8 (I3).g) (bz (c4 s3_9 (I3).g) (fW) (dP)) (d5 (cV 9) (dP))))))
      (dS (iE (eG s3_2 (I3).g (aJ (I3).g (sO (I3).f) (by decide) g3_5.gl (I3).f.c_lines (af (aq v3_6) (af (bJ eE g3_6.gl (I3).f.n_tuple (by kernel_rfl) (af (jN I3 [("_law_piece_here",14)] (gm (aq v3_5)) (fun Y32 I32=>by
        obtain⟨⟨v32_7,v32_14,_⟩,⟨s32_14,_⟩,⟨g32_0,_⟩⟩:=(I32).all [(7, "_law_move"),(14, "_law_piece_here")] [(14, "_law_piece_here")] ["_law_exchanged"] (by decide +kernel)
        exact⟨c4 s32_14 (I32).g,d3,aJ (I32).g (iP (I32).f) (by decide) g32_0.gl (I32).f.c__law_exchanged (af (aq v32_14) (af (aq v32_7) (aj)))⟩)) (aj))) (aj))))))
      (dS (iE (bL (aZ (qR (I3).g.hu) (bc (lI (I3).g) g3_7.gl (I3).f.n_repr (by kernel_rfl) (af (aq v3_2) (aj))) (bc (lI (I3).g) g3_7.gl (I3).f.n_repr (by kernel_rfl) (af (bJ eE g3_6.gl (I3).f.n_tuple (by kernel_rfl) (af (jN I3 [("_law_line",13)] (gm (aq v3_8)) (fun Y34 I34=>by
        obtain⟨⟨v34_7,v34_13,_⟩,⟨s34_13,_⟩,⟨g34_0,_⟩⟩:=(I34).all [(7, "_law_move"),(13, "_law_line")] [(13, "_law_line")] ["_law_exchanged"] (by decide +kernel)
        exact⟨c4 s34_13 (I34).g,d3,aJ (I34).g (iP (I34).f) (by decide) g34_0.gl (I34).f.c__law_exchanged (af (aq v34_13) (af (aq v34_7) (aj)))⟩)) (aj))) (aj))) rfl)
      (aI (aX (mx)))
      (bh)))
      (dS (iE (bL (gy (bc (B4 (I3).g.calm) g3_8.gl (I3).f.n_any (by kernel_rfl) (af (jN I3 [("_law_sign",12)] (gm (fP (T:=.str) j9 (av) (af (aq v3_8) (aj)) PySem.F.plainAttrs_str PySem.F.slot_str_join PySem.F.type_str_join)) (fun Y35 I35=>by
        obtain⟨⟨v35_8,v35_12,v35_9,_⟩,⟨s35_12,_⟩,_⟩:=(I35).all [(8, "_law_told"),(12, "_law_sign"),(9, "_law_whole")] [(12, "_law_sign")] [] (by decide +kernel)
        exact⟨c4 s35_12 (I35).g,d3,i8 (Fi) (fP (T:=.str) qO (fP (T:=.str) j9 (av) (af (aq v35_8) (aj)) PySem.F.plainAttrs_str PySem.F.slot_str_join PySem.F.type_str_join) (af (aq v35_12) (aj)) PySem.F.plainAttrs_str PySem.F.slot_str_count PySem.F.type_str_count) (fP (T:=.str) qO (aq v35_9) (af (aq v35_12) (aj)) PySem.F.plainAttrs_str PySem.F.slot_str_count PySem.F.type_str_count) rfl⟩)) (aj))))
      (aI (aX (mx)))
      (bh)))
      (dS (iE (bL (aZ (qR (I3).g.hu) (jN I3 [("_law_line",13)] (gm (aq v3_8)) (fun Y36 I36=>by
        obtain⟨⟨v36_13,_⟩,⟨s36_13,_⟩,_⟩:=(I36).all [(13, "_law_line")] [(13, "_law_line")] [] (by decide +kernel)
        exact⟨c4 s36_13 (I36).g,EE (aZ (iD (I36).g) (av) (aq v36_13) rfl),aq v36_13⟩)) (aR (aj)) rfl)
      (aI (aX (mx)))
      (bh)))
      (dS (iE (eG s3_3 (I3).g (bt bG (bt bG (bq (I3).g (aq v3_4) (az)) (bq (I3).g (aq v3_4) (az))) (bq (I3).g (aq v3_4) (az)))))
      (sI (Hn (jP (gy (bc (B4 (I3).g.calm) g3_8.gl (I3).f.n_any (by kernel_rfl) (af (jN I3 [("_law_line",13)] (gm (aq v3_3)) (fun Y37 I37=>by
        obtain⟨⟨v37_13,_⟩,⟨s37_13,_⟩,_⟩:=(I37).all [(13, "_law_line")] [(13, "_law_line")] [] (by decide +kernel)
        exact⟨c4 s37_13 (I37).g,d3,Fg (i8 (ye) (av) (aq v37_13) rfl) (wC (i8 (ye) (av) (aq v37_13) rfl))⟩)) (aj)))))
      (dS (Fp s3_10 (I3).g (oV eE g3_6.gl (I3).f.n_tuple (by kernel_rfl) (xV (Cg I3 [("_law_piece_here",14)] (gm (aq v3_5)) (fun Y38 I38=>by
        obtain⟨⟨v38_14,_⟩,⟨s38_14,_⟩,_⟩:=(I38).all [(14, "_law_piece_here")] [(14, "_law_piece_here")] [] (by decide +kernel)
        exact⟨c4 s38_14 (I38).g,d3,uX (aq v38_14)⟩)))))
      (dS (Fp s3_11 (I3).g (oV eE g3_6.gl (I3).f.n_tuple (by kernel_rfl) (xV (Cg I3 [("_law_line",13)] (gm (aq v3_8)) (fun Y39 I39=>by
        obtain⟨⟨v39_13,_⟩,⟨s39_13,_⟩,_⟩:=(I39).all [(13, "_law_line")] [(13, "_law_line")] [] (by decide +kernel)
        exact⟨c4 s39_13 (I39).g,d3,uX (aq v39_13)⟩)))))
      (sI (iE (bL (aZ (qR (I3).g.hu) (bc (lI (I3).g) g3_7.gl (I3).f.n_repr (by kernel_rfl) (af (aJ (I3).g (sO (I3).f) (by decide) g3_5.gl (I3).f.c_lines (af (aq v3_6) (af (aq v3_10) (aj)))) (aj))) (bc (lI (I3).g) g3_7.gl (I3).f.n_repr (by kernel_rfl) (af (aq v3_11) (aj))) rfl)
      (aI (aX (mx)))
      (bh))))))
      (EB))))))))))))
      (sI (iE (aX (mx))))
theorem sM {P:Program} {w:World} {K:PySem.W.Frag} {mg:Str->Option Value} {base:Heap} (x:Fx P w K mg base):dA P w K mg base 6 (He.ga K "_law_right") 1 dU:=by
  obtain⟨fd,Fd,D⟩:=sQ x;exact D.u (FunD.bindsN Fd fun _ _ _ _ _ _ us hl=>match us,hl with | [_],_=>rfl)
theorem pJ:FnScope ["_law_cells", "_law_k", "_law_cell", "_law_mixed", "_law_number"] ["_law_cells", "_law_k"] (defScope (top 37)):=⟨rfl,rfl,rfl,by decide +kernel,rfl,by decide +kernel,by decide +kernel⟩
theorem pV {base:Heap} (x:Fx P w K mg base):∃ fd,FunD K "_law_spring" "_law_spring" (defArgs (top 37)) (defBody (top 37)) (defScope (top 37)) [] [] (He.ga K "_law_spring") fd/\dw P w K mg base 1 (He.ga K "_law_spring") fd ["_law_cells", "_law_k"] 2 d9:=by
  refine cf x x.d__law_spring pJ rfl rfl fun X40 I40 T40=>?_
  obtain⟨⟨v40_1,v40_0,v40_2,v40_3,v40_4,_⟩,⟨s40_2,s40_3,s40_4,_⟩,⟨g40_0,g40_1,g40_2,_⟩⟩:=(I40).all [(1, "_law_k"),(0, "_law_cells"),(2, "_law_cell"),(3, "_law_mixed"),(4, "_law_number")] [(2, "_law_cell"),(3, "_law_mixed"),(4, "_law_number")] ["len", "int", "abs"] (by decide +kernel)
  exact aB (eG s40_2 (I40).g (my (aZ (qQ) (aq v40_1) (bc fC g40_0.gl (I40).f.n_len (by kernel_rfl) (af (aq v40_0) (aj))) rfl) (bq (I40).g (aq v40_0) (aq v40_1)) (bt bG (bt kU (az) (aq v40_1)) (az))))
      (aB (eG s40_3 (I40).g (bt bG (az) (bt kU (az) (aq v40_1))))
      (aB (kW (I40).g.pass (I40).g.calm (gm (bt bG (gh (aq v40_0) (mz) (ir (az))) (aR (af (aq v40_2) (aj))))) (c4 s40_4 (I40).g)
      (aI (eG s40_3 (I40).g (bt oZ (bJ kP g40_1.gl (I40).f.n_int (by kernel_rfl) (af (bt bG (bt bG (bt kU (aq v40_3) (az)) (bJ kP g40_1.gl (I40).f.n_int (by kernel_rfl) (af (aq v40_4) (aj)))) (bt kU (az) (aq v40_1))) (aj))) (az)))))
      (aI (aX (aR (af (my (lM (vi (aZ (qQ) (aq v40_2) (az) rfl) (o6 (aZ (IZ) (aq v40_2) (bt Hh (az) (az)) rfl)))) (bc GZ g40_2.gl (I40).f.n_abs (by kernel_rfl) (af (aq v40_2) (aj))) (az)) (af (aq v40_3) (af (az) (aj)))))))))
theorem pS {P:Program} {w:World} {K:PySem.W.Frag} {mg:Str->Option Value} {base:Heap} (x:Fx P w K mg base):dA P w K mg base 1 (He.ga K "_law_spring") 2 d9:=by
  obtain⟨fd,Fd,D⟩:=pV x;exact D.u (FunD.bindsN Fd fun _ _ _ _ _ _ us hl=>match us,hl with | [_,_],_=>rfl)
theorem HR:FnScope ["_law_script", "_law_k"] ["_law_script"] (defScope (top 50)):=⟨rfl,rfl,rfl,by decide +kernel,rfl,by decide +kernel,by decide +kernel⟩
theorem Jf {base:Heap} (x:Fx P w K mg base):∃ fd,FunD K "law" "law" (defArgs (top 50)) (defBody (top 50)) (defScope (top 50)) [] [] (He.ga K "law") fd/\dw P w K mg base 7 (He.ga K "law") fd ["_law_script"] 1 pW:=by
  refine cf x x.d_law HR rfl rfl fun X1 I1 T1=>?_
  obtain⟨⟨v1_0,_⟩,_,⟨g1_0,g1_1,g1_2,g1_3,g1_4,_⟩⟩:=(I1).all [(0, "_law_script")] [] ["len", "min", "max", "range", "all"] (by decide +kernel)
  exact aI (aX (bc (B3 (I1).g.calm) g1_4.gl (I1).f.n_all (by kernel_rfl) (af (jN I1 [("_law_k",1)] (gL g1_3.gl (I1).f.n_range (af (bc (G0 (I1).g.calm) g1_2.gl (I1).f.n_max (by kernel_rfl) (af (az) (af (bc (G1 (I1).g.calm) g1_1.gl (I1).f.n_min (by kernel_rfl) (af (bc fC g1_0.gl (I1).f.n_len (by kernel_rfl) (af (aq v1_0) (aj))) (af (az) (aj)))) (aj)))) (aj))) (fun Y2 I2=>by
        obtain⟨⟨v2_1,v2_0,_⟩,⟨s2_1,_⟩,⟨g2_0,g2_1,_⟩⟩:=(I2).all [(1, "_law_k"),(0, "_law_script")] [(1, "_law_k")] ["_law_spring", "_law_right"] (by decide +kernel)
        exact⟨c4 s2_1 (I2).g,d3,aJ (I2).g (sM (I2).f) (by decide) g2_1.gl (I2).f.c__law_right (af (aJ (I2).g (pS (I2).f) (by decide) g2_0.gl (I2).f.c__law_spring (af (aq v2_0) (af (aq v2_1) (aj)))) (aj))⟩)) (aj))))
theorem Jd {P:Program} {w:World} {K:PySem.W.Frag} {mg:Str->Option Value} {base:Heap} (x:Fx P w K mg base):dA P w K mg base 7 (He.ga K "law") 1 pW:=by
  obtain⟨fd,Fd,D⟩:=Jf x;exact D.u (FunD.bindsN Fd fun _ _ _ _ _ _ us hl=>match us,hl with | [_],_=>rfl)

theorem fx {w:World} {K:PySem.W.Frag} {h:Heap} {mg:Str->Option Value} (KX:K.In h) (G:h.Ns mainGlobals mg) (c:jj fb fn ts Jp w K) (TB:wW K mg h):Fx R.prog w K mg h where
  n_all:=He.free_ok KX G (c.fact 0)
  n_max:=He.free_ok KX G (c.fact 1)
  n_min:=He.free_ok KX G (c.fact 2)
  n_len:=He.free_ok KX G (c.fact 3)
  n_range:=He.free_ok KX G (c.fact 4)
  n_tuple:=He.free_ok KX G (c.fact 5)
  n_int:=He.free_ok KX G (c.fact 6)
  n_divmod:=He.free_ok KX G (c.fact 7)
  d__law_draw:=c.def_ 0 (d:=D0)
  c__law_draw:=He.glo_ok KX G (c.fact 8)
  d__law_of:=c.def_ 1 (d:=D1)
  c__law_of:=He.glo_ok KX G (c.fact 9)
  d__law_signs:=c.def_ 2 (d:=D2)
  c__law_signs:=He.glo_ok KX G (c.fact 10)
  d__law_pieces:=c.def_ 3 (d:=D3)
  c__law_pieces:=He.glo_ok KX G (c.fact 11)
  n_str:=He.free_ok KX G (c.fact 12)
  d__law_goal:=c.def_ 4 (d:=D4)
  c__law_goal:=He.glo_ok KX G (c.fact 13)
  d__law_row:=c.def_ 5 (d:=D5)
  c__law_row:=He.glo_ok KX G (c.fact 14)
  d__law_free_part:=c.def_ 6 (d:=D6)
  c__law_free_part:=He.glo_ok KX G (c.fact 15)
  d__law_base:=c.def_ 7 (d:=D7)
  c__law_base:=He.glo_ok KX G (c.fact 16)
  d__law_parts:=c.def_ 8 (d:=D8)
  c__law_parts:=He.glo_ok KX G (c.fact 17)
  n_isinstance:=He.free_ok KX G (c.fact 18)
  c_Reader:=He.glo_ok KX G (c.fact 19)
  is_Reader:=c.fact 20
  io_Reader:=c.fact 21
  tb_LEAST:=c.tab 0
  tv_LEAST:=c.fact 22
  c_LEAST:=He.glo_ok KX G (c.fact 23)
  tb_MOST:=c.tab 1
  tv_MOST:=c.fact 24
  c_MOST:=He.glo_ok KX G (c.fact 25)
  n_enumerate:=He.free_ok KX G (c.fact 26)
  c_EACH:=He.str_ok KX G (c.fact 27)
  d_step_in:=c.def_ 9 (d:=D9)
  c_step_in:=He.glo_ok KX G (c.fact 28)
  d_wrong_row:=c.def_ 10 (d:=Kh)
  c_wrong_row:=He.glo_ok KX G (c.fact 29)
  c_InvalidEach:=He.glo_ok KX G (c.fact 30)
  n_super:=He.free_ok KX G (c.fact 31)
  ex_InvalidEach:=lh (c.fact 32) (c.exc 0 (x:=X0)) rfl rfl (He.free_ok KX G (c.fact 31)) ⟨_,_,_,_,⟨⟨_,_,_,_,_,rfl,fun env=>⟨_,rfl⟩⟩,⟨_,rfl,rfl⟩,fun _ _ _ _ _ _ _ self us hl=>(match us,hl with | [_],_=>rfl),rfl,rfl,rfl,by decide +kernel,by decide +kernel,by decide,by decide,rfl,rfl⟩⟩
  c_PIECE:=He.str_ok KX G (c.fact 33)
  c_InvalidPiece:=He.glo_ok KX G (c.fact 34)
  ex_InvalidPiece:=lh (c.fact 35) (c.exc 1 (x:=X1)) rfl rfl (He.free_ok KX G (c.fact 31)) ⟨_,_,_,_,⟨⟨_,_,_,_,_,rfl,fun env=>⟨_,rfl⟩⟩,⟨_,rfl,rfl⟩,fun _ _ _ _ _ _ _ self us hl=>(match us,hl with | [_],_=>rfl),rfl,rfl,rfl,by decide +kernel,by decide +kernel,by decide,by decide,rfl,rfl⟩⟩
  c_LAST:=He.str_ok KX G (c.fact 36)
  c_InvalidLast:=He.glo_ok KX G (c.fact 37)
  ex_InvalidLast:=lh (c.fact 38) (c.exc 2 (x:=X2)) rfl rfl (He.free_ok KX G (c.fact 31)) ⟨_,_,_,_,⟨⟨_,_,_,_,_,rfl,fun env=>⟨_,rfl⟩⟩,⟨_,rfl,rfl⟩,fun _ _ _ _ _ _ _ self us hl=>(match us,hl with | [_],_=>rfl),rfl,rfl,rfl,by decide +kernel,by decide +kernel,by decide,by decide,rfl,rfl⟩⟩
  cl_Reader:=He.cls_ok (c.fact 39)
  na_Reader_parts:=He.noat_ok (c.fact 40)
  d_steps_of:=c.def_ 11 (d:=Ki)
  c_steps_of:=He.glo_ok KX G (c.fact 41)
  na_Reader_steps:=He.noat_ok (c.fact 42)
  na_Reader_whole:=He.noat_ok (c.fact 43)
  na_Reader_shown:=He.noat_ok (c.fact 44)
  d_Reader_init:=c.def_ 12 (d:=Kj)
  mk_Reader:=He.mkr_ok (c.fact 45)
  kp_Reader:=c.fact 46
  d__law_made:=c.def_ 13 (d:=Kk)
  c__law_made:=He.glo_ok KX G (c.fact 47)
  c_NotAReader:=He.glo_ok KX G (c.fact 48)
  ex_NotAReader:=lh (c.fact 49) (c.exc 3 (x:=X3)) rfl rfl (He.free_ok KX G (c.fact 31)) ⟨_,_,_,_,⟨⟨_,_,_,_,_,rfl,fun env=>⟨_,rfl⟩⟩,⟨_,rfl,rfl⟩,fun _ _ _ _ _ _ _ self us hl=>(match us,hl with | [_],_=>rfl),rfl,rfl,rfl,by decide +kernel,by decide +kernel,by decide,by decide,rfl,rfl⟩⟩
  d_check_reader:=c.def_ 14 (d:=Kl)
  c_check_reader:=He.glo_ok KX G (c.fact 50)
  c_InvalidPieces:=He.glo_ok KX G (c.fact 51)
  ex_InvalidPieces:=lh (c.fact 52) (c.exc 4 (x:=X4)) rfl rfl (He.free_ok KX G (c.fact 31)) ⟨_,_,_,_,⟨⟨_,_,_,_,_,rfl,fun env=>⟨_,rfl⟩⟩,⟨_,rfl,rfl⟩,fun _ _ _ _ _ _ _ self us hl=>(match us,hl with | [_],_=>rfl),rfl,rfl,rfl,by decide +kernel,by decide +kernel,by decide,by decide,rfl,rfl⟩⟩
  c_LETTERS:=He.str_ok KX G (c.fact 53)
  c_MARK:=He.str_ok KX G (c.fact 54)
  c_END:=He.str_ok KX G (c.fact 55)
  d_is_signs:=c.def_ 15 (d:=Km)
  c_is_signs:=He.glo_ok KX G (c.fact 56)
  d_check_pieces:=c.def_ 16 (d:=Kn)
  c_check_pieces:=He.glo_ok KX G (c.fact 57)
  d_holds:=c.def_ 17 (d:=Ko)
  c_holds:=He.glo_ok KX G (c.fact 58)
  d_bare:=c.def_ 18 (d:=Kq)
  c_bare:=He.glo_ok KX G (c.fact 59)
  d_done:=c.def_ 19 (d:=Kr)
  c_done:=He.glo_ok KX G (c.fact 60)
  d_lines_of:=c.def_ 20 (d:=Ks)
  c_lines_of:=He.glo_ok KX G (c.fact 61)
  d_lines:=c.def_ 21 (d:=Kt)
  c_lines:=He.glo_ok KX G (c.fact 62)
  d__law_exchanged:=c.def_ 22 (d:=Ku)
  c__law_exchanged:=He.glo_ok KX G (c.fact 63)
  n_repr:=He.free_ok KX G (c.fact 64)
  n_any:=He.free_ok KX G (c.fact 65)
  d__law_right:=c.def_ 23 (d:=Kv)
  c__law_right:=He.glo_ok KX G (c.fact 66)
  n_abs:=He.free_ok KX G (c.fact 67)
  d__law_spring:=c.def_ 24 (d:=Kw)
  c__law_spring:=He.glo_ok KX G (c.fact 68)
  d_law:=c.def_ 25 (d:=Kx)
  c_law:=He.glo_ok KX G (c.fact 69)
theorem F3 {w:World} {K:PySem.W.Frag} {h:Heap} {mg:Str->Option Value} (KX:K.In h) (G:h.Ns mainGlobals mg) (c:jj fb fn ts Jp w K):mg "law" = some (.ref (He.ga K "law")):=He.glo_ok KX G (c.fact 69)
end LW

open PySem PySem.W PySem.Calls PyProof.Rows
theorem PySem.Challenge.cw_linepieces_k15_letters_are_alike_holds : PySem.Challenge.rw_linepieces_k15_letters_are_alike.Holds := by
  w_on;o_law
  refine HandSHeadRun.head_any (r:=OpenLaw.row PySem.Challenge.rw_linepieces_k15_letters_are_alike) (q:=view (OpenLaw.row PySem.Challenge.rw_linepieces_k15_letters_are_alike).prog [50]) (H:=LW.hk) (ob:=LW.ob) (M:=8000) (loose:=LW.names) (d:=HandSHeadRun.topDef (OpenLaw.row PySem.Challenge.rw_linepieces_k15_letters_are_alike).prog 50) (kwd:=[]) LW.Iw
    (by kernel_rfl) (fun s=>by kernel_rfl) LW.run (by kernel_rfl) (by kernel_rfl) (by kernel_rfl) (by rfl) (by first | assumption | decide +kernel) (by decide +kernel) ⟨rfl,rfl,rfl,rfl,rfl,by decide +kernel⟩ ?hw ?hc
  case hw=>w_witness2
  case hc=>
    refine UL.Hx (l:=PySem.Challenge.rw_linepieces_k15_letters_are_alike) (n:=63) (k:=7) rfl (by decide) (by kernel_rfl) ⟨rfl,by decide,by decide⟩ ?F
    intro w mg fa h Y G hmg0;obtain⟨K,KX,c,tb⟩:=Y;have tb':∀ p∈UL.bo.fs,UL.zU K h (p K).1:=fun p hp=>tb (fun K=>(p K).1) (List.mem_map.mpr ⟨p,hp,rfl⟩)
    have hmg:mg ("law" : PySem.Str)=some (.ref fa):=by
      have e:(HandSHeadRun.topDef (OpenLaw.row PySem.Challenge.rw_linepieces_k15_letters_are_alike).prog 50).name=("law" : PySem.Str):=by kernel_rfl
      rw[<- e];exact hmg0
    have e:=hmg.symm.trans (LW.F3 KX G c);cases e
    exact⟨K,LW.pW,KX,tb',fun base Kb Gb TB=>LW.Jd (LW.fx Kb Gb c TB),fun ns hl hb=>LW.AV ns hl hb⟩
